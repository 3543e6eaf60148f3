import PyProof.Rows.All
import Wide.All
import OpenK.AllK
import Wide.FinOn
import HandS.ForMost
import HandS.ForExc
import HandS.WideBits
import HandS.EndBits
import HandS.Defaults
import HandS.FStrTup
import HandS.IsInst
import HandS.More
import HandS.Style
import HandS.Steps
import HandS.MakeKwOnly
import HandS.SortInts
import HandS.SortRule
import HandS.Small
import HandS.Strs
import HandS.FStr
import HandS.Codes
import HandS.DeepEq
import HandS.ExcInit
import HandS.ExcIs
import HandS.ExcField
import KE.KExcIs
import HandS.Zip
import HandS.Conv
import HandS.HeadHook3
import KE.GoesMore
import KE.GoesEnum
import KE.KUnpackStar
import KE.KStateDown
import HandS.Head0
import HandS.Head1
import HandS.Head2
import HandS.HeadHook1
import HandS.HeadHook2
import HandS.Text
import HandS.StrMore
import HandS.RaiseMore
import HandS.Iter
import KE.IntTextLaws
import PySem.Challenge.RW_forkthrift_k81_whole_paths_gone_alone
set_option Elab.async false
set_option linter.all false
set_option maxRecDepth 100000
set_option maxHeartbeats 4000000
namespace G
/-- a step of a walk that asks nothing -/
class Red (g : Prop) (n : outParam Prop) : Prop where
  r : n → g
open PySem PySem.Spec PyProof.Rows L2

/-! the call layer once more, with the guards known -/
structure RoomG (k : Nat) (A : Around) : Prop where
  r : Room k A
  g : A.guards = some []
theorem RoomG.mono {j k : Nat} {A : Around} (z : RoomG k A) (h : j ≤ k) : RoomG j A :=
  ⟨z.r.mono h, z.g⟩
theorem RoomG.deeper {k : Nat} {A : Around} (z : RoomG (k + 1) A) (env : Env) :
    RoomG k (A.deeper env) := ⟨z.r.deeper env, z.g⟩
theorem make_guards {A : Around} {C : Addr} {us : List Value} {kw : List (Str × Value)} :
    (A.under (.builtin "type.__call__" ⟨.ref C :: us, kw⟩)).guards = A.guards := by
  first
    | rfl
    | (simp only [Around.under]
       rw [pushGuards_eq]
       have e : Code.guards (.builtin "type.__call__" ⟨.ref C :: us, kw⟩) = [] := by
         simp [Code.guards, Code.isGuard, guardIds]
       rw [e]
       cases A.guards <;> rfl)
theorem RoomG.make {k : Nat} {A : Around} (z : RoomG (k + 1) A) (C : Addr) (us : List Value)
    (kw : List (Str × Value)) : RoomG k (A.under (.builtin "type.__call__" ⟨.ref C :: us, kw⟩)) :=
  ⟨z.r.make C us kw, make_guards.trans z.g⟩

structure FnG (P : Program) (w : World) (K : PySem.W.Frag) (mg : Str → Option Value) (base : Heap)
    (k : Nat) (f : Addr) (fd : FuncData) (ps : List Str) (sp : Sp) : Prop where
  len : ∀ vs H Q E, sp vs H Q E → vs.length = ps.length
  run : ∀ (A : Around) (outer : List Env) (s : Shared) (H : Hp) (args : Args) (us : List Value)
    (vs : List V) (Q : VK) (E : XK), RoomG k A → Env0 P w K mg base A outer s H →
    BindsTo s fd args (ps.zip us) → Vals vs us → sp vs H Q E →
    codeAny (model P w) A (.call (.ref f) args) (CR (L2.CX P w) outer P w H s Q E) s
section
variable {P : Program} {w : World} {K : PySem.W.Frag} {mg : Str → Option Value} {base : Heap}
theorem FnG.mono {j k : Nat} {f : Addr} {fd : FuncData} {ps : List Str} {sp : Sp}
    (F : FnG P w K mg base j f fd ps sp) (h : j ≤ k) : FnG P w K mg base k f fd ps sp :=
  ⟨F.len, fun A o s H args us vs Q E z => F.run A o s H args us vs Q E (z.mono h)⟩
theorem FnG.of {k : Nat} {f : Addr} {fd : FuncData} {ps : List Str} {sp : Sp}
    (F : FnOk P w K mg base (L2.CX P w) k f fd ps sp) : FnG P w K mg base k f fd ps sp :=
  ⟨F.len, fun A o s H args us vs Q E z => F.run A o s H args us vs Q E z.r⟩

/-- a def by its body -/
theorem FnG.body {k : Nat} {f : Addr} {name qual : Str} {params : Arguments} {body : List Stmt}
    {sc : Scope} {dV kV doc pm cdv ct oc : Value} {an od : Option Addr} {osl : Array (Option Value)}
    {N ps : List Str} {sp : Sp}
    (lk : K.lookup f = some ⟨oc, od, .func (PySem.W.fnOf name qual params body sc dV kV doc pm an cdv ct), osl⟩)
    (hcd : PySem.W.codeIn K cdv qual = true) (S : FnScope N ps sc)
    (len : ∀ vs H Q E, sp vs H Q E → vs.length = ps.length)
    (hb : ∀ (A : Around) (outer : List Env) (s : Shared) (H : Hp) (vs : List V) (Q : VK) (E : XK),
      RoomG k (A.deeper (envOfC qual sc s.heap.objs.size f cdv)) → sp vs H Q E →
      ∃ t, PSs (cxOf (L2.CX P w) P w K mg base N qual sc f cdv A outer s H E) body t ∧
        t { nx := fun _ H' => Q .non H', rt := Q } (start N vs) H) :
    FnG P w K mg base (k + 1) f
      (PySem.W.fnOf name qual params body sc dV kV doc pm an cdv ct) ps sp := by
  refine ⟨len, ?_⟩
  intro A outer s H args us vs Q E z e0 bd rv hsp
  have n0 := len _ _ _ _ hsp
  have kin : K.In s.heap :=
    e0.mod.kin.keeps (fun b o e => (e0.bs b o e).1)
  have lim : s.heap.NoLimit :=
    e0.mod.nolimit.keeps (fun b o e => (e0.bs b o e).1)
  have kinds : ∀ y ∈ ps.zip us, sc.names.lookup y.1 = some .local ∨
      (sc.names.lookup y.1 = some .cell ∧
        ((cellsFrom (s.heap.objs.size + 1) sc.names []).lookup y.1).isSome = true) := by
    intro y hy
    obtain ⟨m, v⟩ := y
    cases S.par m (List.of_mem_zip hy).1 with
    | inl q => exact Or.inl q
    | inr q => exact Or.inr ⟨q, PySem.W.cellsFrom_some _ _ _ (Or.inl q)⟩
  refine codeAny_call_function z.r.depth (kin _ _ lk) rfl S.co S.gen rfl
    (PySem.W.codeRec_of kin hcd) (bd _ _ _ _ ?_)
  refine wpAny_newFunctionEnv_cells S.kind kinds ?_
  intro env he s1 x
  subst he
  refine ⟨lim.keeps x.toInCall.keep, ?_⟩
  refine codeAny_func ?_
  obtain ⟨t, ht, hq⟩ := hb A outer s H vs Q E (z.deeper _) hsp
  have I := inv_start (CX := L2.CX P w) (K := K) (mg := mg) (base := base) (E := E)
    S z.r.hd e0 n0 rv x
  refine wpAny_mono (ht.run [] s1 (start N vs) H _ I hq) ?_ (fun e s' hs => hs)
  intro fl s' hs
  have fin : ∀ {τ : L2.St} {G : Hp} {v : V} {u : Value},
      Inv (cxOf (L2.CX P w) P w K mg base N qual sc f cdv A outer s H E) [] τ G s' →
      RelV v u → Q v G → CE outer P w H s Q u s' := by
    intro τ G v u J r q
    exact ⟨v, G, J.os, J.bare, J.base, J.hok, r, q⟩
  match fl, hs with
  | .ret u, ⟨v, τ, G, J, r, q⟩ => exact fin J r q
  | .next, ⟨τ, G, J, q⟩ => exact fin (v := .non) (u := Value.none) J rfl q
  | .brk, ⟨_, _, _, q⟩ => exact False.elim q
  | .cont, ⟨_, _, _, q⟩ => exact False.elim q
end
end G
namespace G
open PySem PySem.Spec PyProof.Rows L2
section
variable {X : Cx} {k n : Nat} {f C : Addr} {fd : FuncData} {ps ks : List Str} {sp : Sp}
variable {dvs : List V} {ds : List Value} {E : XK} {x m : Str} {p pos apos : Pos} {e o : Expr}
variable {es : List Expr} {ta : TE} {t tk : TA} {pins : List (Addr × Obj)} {σ : L2.St} {H : Hp}
variable {s s' : Shared} {Q : VK}
abbrev Fg (X : Cx) (k : Nat) (f : Addr) (fd : FuncData) (ps : List Str) (sp : Sp) : Prop :=
  FnG X.prog X.w X.K X.mg X.base k f fd ps sp
abbrev Ps (X : Cx) (E : XK) : Prop := Passes (L2.CX X.prog X.w) X E

def Got (X : Cx) (R : Value → Shared → Prop) : Result → Shared → Prop
  | .ok (.ret u), s' => R u s'
  | .ok _, _ => False
  | .error e, s' => X.xe e s'
theorem ended (I : Inv X pins σ H s) (hx : Ps X E) {R : Value → Shared → Prop}
    (hR : ∀ u s', CE X.stack X.prog X.w H s Q u s' → R u s') {r : Result}
    (q : CR (L2.CX X.prog X.w) X.stack X.prog X.w H s Q E r s') : Got X R r s' := by
  match r, q with
  | .error e, q => exact hx pins σ H s e s' I q
  | .ok (.ret u), q => exact hR u s' q
  | .ok .next, q => exact False.elim q
  | .ok .brk, q => exact False.elim q
  | .ok .cont, q => exact False.elim q

theorem runG {args : Args} {us : List Value} {vs : List V} (F : Fg X k f fd ps sp)
    (z : RoomG k X.A) (hb : BindsTo s fd args (ps.zip us)) (hx : Ps X E) (I : Inv X pins σ H s)
    (rv : Vals vs us) (h : sp vs H Q E) :
    codeAny (model X.prog X.w) X.A (.call (.ref f) args) (Got X (EP X pins σ Q)) s := by
  refine codeAny_mono (F.run X.A X.stack s H args us vs Q E z I.env0 hb rv h) ?_
  intro r s' q
  exact ended I hx (fun u s' c => I.after c) q

theorem run1 {us : List Value} {vs : List V} (F : Fg X k f fd ps sp) (z : RoomG k X.A)
    (hb : Binds X.K fd ps ds) (hd : Vals dvs ds) (hx : Ps X E) (I : Inv X pins σ H s)
    (rv : Vals vs us) (h : sp (vs ++ dvs) H Q E) :
    wpAny (model X.prog X.w) X.A (call (.ref f) us) (EP X pins σ Q) X.xe s := by
  have r2 : Vals (vs ++ dvs) (us ++ ds) := rv.append hd
  have hl : (us ++ ds).length = ps.length := by
    rw [← r2.length]
    exact F.len _ _ _ _ h
  refine wpAny_call (codeAny_mono (runG F z (hb s us I.kIn hl) hx I r2 h) ?_)
  intro r s' q
  match r, q with
  | .error e, q => exact q
  | .ok (.ret u), q => exact q
  | .ok .next, q => exact q
  | .ok .brk, q => exact q
  | .ok .cont, q => exact q

theorem c1 (F : Fg X k f fd ps sp) (z : RoomG k X.A) (hg : Gl X x) (hm : X.mg x = some (.ref f))
    (hk : PySem.W.keepIn X.K (.ref f) = true) (hb : Binds X.K fd ps ds) (hd : Vals dvs ds)
    (hx : Ps X E) (ha : PA X (e :: es) t)
    (hdb : (x == ("__debug__" : Str)) = false := by decide)
    (he : starEach (e :: es) X.env = (false, eval e X.env) :: starEach es X.env := by rfl)
    (hpl : (backTo pos (starEach es X.env)).any (·.1) = false := by rfl) :
    PE X (.Call (.Name x p) (e :: es) [] pos) (tCall sp dvs E t) := by
  constructor
  intro pins s σ H Q I h
  refine wpAny_Call_Name_kw (ld_glob I hg hm ?_ hdb)
  refine PySem.W.callWith_K (h₀ := X.base) I.ok.mod.kin hk ?_ he hpl
  refine thn (ha.run pos pins s σ H _ I h) ?_
  intro us s1 y
  obtain ⟨vs, H1, I1, r, q⟩ := y
  exact ⟨I1.kIn, run1 F z hb hd hx I1 r q⟩

theorem c0 (F : Fg X k f fd ps sp) (z : RoomG k X.A) (hg : Gl X x) (hm : X.mg x = some (.ref f))
    (hk : PySem.W.keepIn X.K (.ref f) = true) (hb : Binds X.K fd ps ds) (hd : Vals dvs ds)
    (hx : Ps X E) (hdb : (x == ("__debug__" : Str)) = false := by decide) :
    PE X (.Call (.Name x p) [] [] pos) (tCall sp dvs E tNil) := by
  constructor
  intro pins s σ H Q I h
  refine wpAny_Call_Name_kw (ld_glob I hg hm ?_ hdb)
  exact PySem.W.callWith_K0 I.kIn hk (run1 (us := []) F z hb hd hx I .nil h)

/-- o.m(..) -/
theorem cm {pl : Sem Bool} (he : PE X o ta) (c : Cls X.K C) (hm : Meth X.K C m f)
    (F : Fg X k f fd ps sp) (z : RoomG k X.A) (hb : Binds X.K fd ps ds) (hd : Vals dvs ds)
    (hx : Ps X E) (ha : PA X (e :: es) t)
    (hst : starEach (e :: es) X.env = (false, eval e X.env) :: starEach es X.env := by rfl)
    (hpl : (backTo pos (starEach es X.env)).any (·.1) = false := by rfl)
    (ht : eval (.Call (.Attribute o m apos) (e :: es) [] pos) X.env = (do
      let y ← eval o X.env
      standAt apos.atName
      let (g, a) ← holding [y] (getMethod y m pl)
      callWith pos g a (backTo pos (starEach (e :: es) X.env))
        (backToKw pos (keywordEach [] X.env))) := by rfl) :
    PE X (.Call (.Attribute o m apos) (e :: es) [] pos) (tMeth C m sp dvs E ta t) := by
  constructor
  intro pins s σ H Q I h
  refine PySem.W.methodCall_KW (pl := pl) (thn (he.run pins s σ H _ I h) ?_) ht
  intro u s1 y
  obtain ⟨v, H1, I1, rx, a, dx, fs, ex, ea, l, q⟩ := y
  subst ex
  obtain rfl : u = Value.ref a := rx
  refine getmeth_ok I1 ea c hm l ?_
  refine PySem.W.callWith_K (first := [.ref a]) (h₀ := X.base) I.ok.mod.kin hm.kp ?_ hst hpl
  refine thn (ha.run pos pins s1 σ H1 _ I1 q) ?_
  intro us s2 y
  obtain ⟨vs, H2, I2, r, q2⟩ := y
  exact ⟨I2.kIn, run1 (us := .ref a :: us) (vs := .ref a :: vs) F z hb hd hx I2 (.cons rfl r) q2⟩
/-- o.m() -/
theorem cm0 {pl : Sem Bool} (he : PE X o ta) (c : Cls X.K C) (hm : Meth X.K C m f)
    (F : Fg X k f fd ps sp) (z : RoomG k X.A) (hb : Binds X.K fd ps ds) (hd : Vals dvs ds)
    (hx : Ps X E)
    (ht : eval (.Call (.Attribute o m apos) [] [] pos) X.env = (do
      let y ← eval o X.env
      standAt apos.atName
      let (g, a) ← holding [y] (getMethod y m pl)
      callWith pos g a (backTo pos (starEach [] X.env))
        (backToKw pos (keywordEach [] X.env))) := by rfl) :
    PE X (.Call (.Attribute o m apos) [] [] pos) (tMeth C m sp dvs E ta tNil) := by
  constructor
  intro pins s σ H Q I h
  refine PySem.W.methodCall_KW (pl := pl) (thn (he.run pins s σ H _ I h) ?_) ht
  intro u s1 y
  obtain ⟨v, H1, I1, rx, a, dx, fs, ex, ea, l, q⟩ := y
  subst ex
  obtain rfl : u = Value.ref a := rx
  refine getmeth_ok I1 ea c hm l ?_
  refine PySem.W.callWith_K0 (first := [.ref a]) I1.kIn hm.kp ?_
  exact run1 (us := [.ref a]) (vs := [.ref a]) F z hb hd hx I1 (.cons rfl .nil) q
end
end G
namespace G
open PySem PySem.Spec PyProof.Rows L2

/-- the heap at the law's entry: the script alone is tracked, or nothing -/
theorem lawG {P : Program} {w : World} {K : PySem.W.Frag} {mg mb : Str → Option Value} {k : Nat}
    {fa a : Addr} {fd : FuncData} {x : Str} {sp : Sp} {s0 : Shared} {vs : List Value}
    {ns : List Int} (kin : K.In s0.heap) (hns : s0.heap.Ns mainGlobals mg)
    (hb : s0.heap.Ns builtinsNs mb) (hbb : ∀ y : Str, y ≠ "__name__" → mb y = bootBuiltins y)
    (lim : s0.heap.NoLimit) (hg : s0.gens = #[])
    (ha : s0.heap.get? a = some { cls := .type "list", data := .seq vs.toArray })
    (hi : IntsAre vs ns) (hl : ns.length ≤ sizeLine) (z : RoomG k callerA)
    (F : ∀ base : Heap, K.In base → base.Ns mainGlobals mg → FnG P w K mg base k fa fd [x] sp)
    (bd : ∀ (s : Shared) (u : Value), BindsTo s fd ⟨[u], []⟩ [(x, u)])
    (hsp : ∀ H : Hp, Only H → SqL K H a (ns.map V.int) →
      sp [.ref a] H (fun v _ => v = .bl true) fun _ _ _ => False) :
    codeAny (model P w) callerA (.call (.ref fa) ⟨[.ref a], []⟩)
      (fun r s' => r = .ok (.ret (.bool true)) ∧ OldK s0.heap s'.heap ∧ s'.os = s0.os ∧
        AllBare s'.gens) s0 := by
  have rv := vals_ints hi
  have lv := hi.length
  have core : ∀ H : Hp, Only H → SqL K H a (ns.map V.int) → HOk P w H s0.heap →
      (∀ b, H b ≠ none → b = a) → (H a ≠ none → K.lookup a = none) →
      codeAny (model P w) callerA (.call (.ref fa) ⟨[.ref a], []⟩)
        (fun r s' => r = .ok (.ret (.bool true)) ∧ OldK s0.heap s'.heap ∧ s'.os = s0.os ∧
          AllBare s'.gens) s0 := by
    intro H only sq hok only_a notK
    have at_a : ∀ {b : Addr}, H b ≠ none → b = a := fun {b} q => only_a b q
    have seqs : ∀ {b : Addr} {o : Obj} {es : Array DictEntry} {ep : Nat},
        s0.heap.get? b = some o → o.data = .dict es ep → H b = none := by
      intro b o es ep e d
      cases q : H b with
      | none => rfl
      | some u =>
        obtain rfl := at_a (b := b) (by rw [q]; exact fun y => nomatch y)
        rw [ha] at e
        cases e
        have d' : Data.seq vs.toArray _ = Data.dict es ep := d
        cases d'
    have nsb : ∀ {b : Addr} {g : Str → Option Value}, s0.heap.Ns b g →
        (hidT s0.heap H).Ns b g := by
      intro b g y
      obtain ⟨o, es, ep, e, d, r⟩ := y
      exact ⟨o, es, ep, hidT_get e (seqs e d), d, r⟩
    have kb : K.In (hidT s0.heap H) := by
      intro b o e
      refine hidT_get (kin b o e) ?_
      cases q : H b with
      | none => rfl
      | some u =>
        obtain rfl := at_a (b := b) (by rw [q]; exact fun y => nomatch y)
        rw [notK (by rw [q]; exact fun y => nomatch y)] at e
        cases e
    have md : Mod K mg (hidT s0.heap H) := by
      obtain ⟨mc, l1, l2⟩ := lim
      exact ⟨kb, nsb hns, ⟨mb, nsb hb, hbb⟩, ⟨mc, nsb l1, l2⟩⟩
    have e0 : Env0 P w K mg (hidT s0.heap H) callerA [] s0 H :=
      ⟨rfl, md, fun b o e => of_hidT e, Nat.le_of_eq (hidT_size _ _), trivial,
        fun b q => absurd (show b ∈ ([] : List Addr) from q) List.not_mem_nil, hok, .of_eq hg⟩
    have run := (F _ kb (nsb hns)).run callerA [] s0 H ⟨[.ref a], []⟩ [.ref a] [.ref a] _ _
      z e0 (bd s0 (.ref a)) (.cons rfl .nil) (hsp H only sq)
    refine codeAny_mono run ?_
    intro r s' h
    match r, h with
    | .error e, h =>
      obtain ⟨_, _, _, _, _, _, _, _, _, _, _, _, y⟩ := h
      exact y.elim
    | .ok .next, h => exact False.elim h
    | .ok .brk, h => exact False.elim h
    | .ok .cont, h => exact False.elim h
    | .ok (.ret u), h =>
      obtain ⟨v, H', os, bare, un, hok', r', q⟩ := h
      have q' : v = .bl true := q
      subst q'
      obtain rfl : u = Value.bool true := r'
      refine ⟨rfl, OldK.of_keep ?_, os, bare⟩
      intro b o e
      cases q : H b with
      | none =>
        exact un.keep b o e q (fun y => absurd (show b ∈ ([] : List Addr) from y) List.not_mem_nil)
          List.not_mem_nil
      | some u =>
        rcases only b with y | ⟨ob, xs, y⟩
        · rw [q] at y
          cases y
        · obtain ⟨e1, _⟩ := hok b _ y
          obtain ⟨e2, _⟩ := hok' b _ (un.frzs b ob _ y)
          rw [e] at e1
          cases e1
          exact e2
  cases hk : K.lookup a with
  | some o =>
    have e := kin a o hk
    rw [ha] at e
    cases e
    refine core (fun _ => none) (fun _ => Or.inl rfl) (Or.inr ?_) ?_ (fun b y => absurd rfl y)
      (fun y => absurd rfl y)
    · refine ⟨_, vs.toArray, _, hk, rfl, rfl, rfl, ?_, ?_⟩
      · rw [List.size_toArray, lv]
        exact hl
      · simpa using rv
    · intro b u y
      have y' : (none : Option HO) = some u := y
      cases y'
  | none =>
    refine core (fun b => if b = a then
      some (.frz { cls := .type "list", data := .seq vs.toArray } (.lst (ns.map V.int)))
      else none) ?_ (Or.inl (Or.inr ⟨_, if_pos rfl⟩)) ?_ ?_ (fun _ => hk)
    · intro b
      by_cases q : b = a
      · exact Or.inr ⟨_, _, if_pos q⟩
      · exact Or.inl (if_neg q)
    · intro b u y
      by_cases q : b = a
      · have y' := (if_pos q).symm.trans y
        cases y'
        subst q
        refine ⟨ha, ?_, vs, _, rv, ha⟩
        rw [List.length_map]
        exact hl
      · have y' := (if_neg q).symm.trans y
        cases y'
    · intro b y
      by_cases q : b = a
      · exact q
      · exact absurd (if_neg q) y

/-- the end of a law row, the script's bits told -/
theorem walkG {l : PySem.W.OpenLaw} {n k : Nat} {q : Program} {loose : List Str}
    {XP : (Str → Option Value) → Heap → Prop} {YP : World → Heap → Prop} {d : DefRec}
    {K : Params → PySem.W.Frag} {sp : PySem.W.Frag → Sp} {x : Str} (hn : l.most = some n)
    (hn2 : n ≤ sizeLine) (hdf : d.params.defaults = []) (hr : Room k callerA)
    (hY : ∀ (w : World) (h : Heap), YP w h → (K w.params).In h)
    (F : ∀ (w : World) (mg : Str → Option Value) (fa : Addr) (h : Heap), (K w.params).In h →
      h.Ns mainGlobals mg → mg d.name = some (.ref fa) →
      ∃ fd : FuncData, (∀ (s : Shared) (u : Value), BindsTo s fd ⟨[u], []⟩ [(x, u)]) ∧
        ∀ base : Heap, (K w.params).In base → base.Ns mainGlobals mg →
          FnG l.prog w (K w.params) mg base k fa fd [x] (sp (K w.params)))
    (hsp : ∀ (K : PySem.W.Frag) (H : Hp) (a : Addr) (ns : List Int), ns.length ≤ n →
      (∀ z ∈ ns, Builtin.Int.intBits z ≤ 1048576) → Only H → SqL K H a (ns.map V.int) →
      sp K [.ref a] H (fun v _ => v = .bl true) fun _ _ _ => False) :
    PySem.W.WalkO q loose XP YP l.row.toRowW d [] (fun f vs => PySem.call f vs) := by
  refine Att.attach_callB hn hdf ?_
  intro w s0 s1 mg mb fa o pm cd doc a vs ns T Y ho hd hcd hmg hobj hints hlen hbits hg
  have kin := hY w _ Y
  obtain ⟨fd, hb, hF⟩ := F w mg fa _ kin T.T.g hmg
  exact lawG kin T.T.g T.T.b T.T.builtins T.T.nolimit hg hobj hints (Nat.le_trans hlen hn2)
    ⟨hr, rfl⟩ hF hb (fun H hO hS => hsp _ H a ns hlen hbits hO hS)
end G
namespace G
open PySem PySem.Spec PyProof.Rows L2

/-! ### repr of data -/

mutual
def cw : PyData → Nat
  | .none => 4
  | .bool _ => 5
  | .int _ => 1930
  | .str x => 10 * x.length + 4
  | .list xs => cws xs + 2
  | .tuple xs => cws xs + 2
  | .dict _ => 0
def cws : List PyData → Nat
  | [] => 0
  | x :: xs => cw x + 2 + cws xs
end
mutual
/-- it may be shown: ints of few bits, texts of plain signs, no dict -/
def shw : PyData → Bool
  | .none => true
  | .bool _ => true
  | .int i => decide (i.natAbs.log2 < 1920)
  | .str x => x.cps.toList.all fun c => decide (c < 16 ^ 8)
  | .list xs => shws xs
  | .tuple xs => shws xs
  | .dict _ => false
def shws : List PyData → Bool
  | [] => true
  | x :: xs => shw x && shws xs
end
theorem list_text (ts : List Str) : (listText ts).length ≤ piled ts + 2 := by
  unfold listText
  rw [strLen_append]
  have e1 : (("[" : Str)).length = 1 := by decide +kernel
  have e2 : (("]" : Str)).length = 1 := by decide +kernel
  cases ts with
  | nil =>
    show (("[" : Str)).length + (("]" : Str)).length ≤ _
    omega
  | cons t r =>
    have q := textFrom_length_pos r 1 (("[" : Str) ++ (if 0 > 0 then ", " else "" : String) ++ t) (by decide)
    have e3 : ((if 0 > 0 then ", " else "" : String) : Str).length = 0 := by decide +kernel
    have q2 : (textFrom 0 "[" (t :: r)).length = (("[" : Str) ++ (if 0 > 0 then ", " else "" : String) ++ t).length + piled r := q
    rw [q2, strLen_append, strLen_append, piled_cons]
    omega
mutual
theorem shown_len : ∀ d : PyData, shw d = true → d.shown.length ≤ cw d
  | .none, _ => by simp only [PyData.shown, cw]; decide +kernel
  | .bool b, _ => by cases b <;> (simp only [PyData.shown, cw]; decide +kernel)
  | .int i, h => by
    simp only [shw, decide_eq_true_eq] at h
    simp only [PyData.shown, cw]
    have q := int_text_length_le (a := i) (k := 1920) (by decide) h
    rw [PySem.ofString_length]
    omega
  | .str x, h => by
    simp only [shw, List.all_eq_true, decide_eq_true_eq] at h
    simp only [PyData.shown, cw]
    have q := StrLaws.reprText_len x h
    omega
  | .list xs, h => by
    simp only [shw] at h
    simp only [PyData.shown, cw]
    exact Nat.le_trans (list_text _) (Nat.add_le_add_right (shown_lens xs h) 2)
  | .tuple xs, h => by
    simp only [shw] at h
    simp only [PyData.shown, cw]
    exact Nat.le_trans (fmt_text _) (Nat.add_le_add_right (shown_lens xs h) 2)
  | .dict _, h => by simp only [shw] at h; cases h
theorem shown_lens : ∀ ds : List PyData, shws ds = true → piled (PyData.shownAll ds) ≤ cws ds
  | [], _ => Nat.zero_le _
  | d :: ds, h => by
    simp only [shws, Bool.and_eq_true] at h
    simp only [PyData.shownAll, cws, piled_cons]
    have q1 := shown_len d h.1
    have q2 := shown_lens ds h.2
    omega
end
mutual
theorem shw_showable : ∀ d : PyData, shw d = true → d.showable = true ∧ d.hasDict = false
  | .none, _ => ⟨rfl, rfl⟩
  | .bool _, _ => ⟨rfl, rfl⟩
  | .int i, h => ⟨by simpa only [shw, PyData.showable] using h, rfl⟩
  | .str x, _ => ⟨rfl, rfl⟩
  | .list xs, h => by
    simp only [shw] at h
    simpa only [PyData.showable, PyData.hasDict] using shws_showable xs h
  | .tuple xs, h => by
    simp only [shw] at h
    simpa only [PyData.showable, PyData.hasDict] using shws_showable xs h
  | .dict _, h => by simp only [shw] at h; cases h
theorem shws_showable : ∀ ds : List PyData, shws ds = true →
    PyData.showableAll ds = true ∧ PyData.hasDictAll ds = false
  | [], _ => ⟨rfl, rfl⟩
  | d :: ds, h => by
    simp only [shws, Bool.and_eq_true] at h
    obtain ⟨a, b⟩ := shw_showable d h.1
    obtain ⟨e, f⟩ := shws_showable ds h.2
    simp only [PyData.showableAll, PyData.hasDictAll, a, b, e, f]
    exact ⟨rfl, rfl⟩
end
/-- repr(x), x data -/
def rRepr (K : PySem.W.Frag) : List V → Hp → VK → Prop := fun xs H Q =>
  ∃ x d, xs = [x] ∧ Dp K H x d ∧ shw d = true ∧ d.depth ≤ 60 ∧ cw d ≤ sizeLine ∧ Q (.str d.shown) H
theorem call_repr {X : Cx} (hg : X.A.guards = some []) (hu : X.A.units + 64 < cLine) :
    CallR X (.builtin "repr") (rRepr X.K) := by
  intro pins s σ H vs us Q I rv h
  obtain ⟨x, d, rfl, hd, hs, hdp, hz, q⟩ := h
  obtain ⟨hs1, hs2⟩ := shw_showable d hs
  have hz2 := Nat.le_trans (shown_len d hs) hz
  cases rv with
  | cons r rn =>
    cases rn
    obtain ⟨as, hr⟩ := Dp.reads I d _ _ hd r
    cases hr with
    | none => exact PySem.P.repr_of_none ⟨.str _, H, I.tok _, ⟨_, rfl⟩, q⟩
    | bool b => exact PySem.P.repr_of_bool ⟨.str _, H, I.tok _, ⟨_, rfl⟩, q⟩
    | int i t =>
      refine PySem.P.repr_of_int ?_ ⟨.str _, H, I.tok _, ⟨_, rfl⟩, q⟩
      first | exact hs | simpa only [shw, decide_eq_true_eq] using hs
    | str y t => exact PySem.P.repr_of_str ⟨.str _, H, I.tok _, ⟨_, rfl⟩, q⟩ hz2
    | list h1 h2 h3 h4 =>
      refine repr_of_reads' (Reads.list h1 h2 h3 h4) hs1 (fun y => by rw [hs2] at y; cases y) hg
        (by omega) (fun _ _ e => e) (fun h' u tk hk => ?_) hz2
      exact ⟨.str _, H, I.kept hk, ⟨_, rfl⟩, q⟩
    | tuple h1 h2 h3 h4 =>
      refine repr_of_reads' (Reads.tuple h1 h2 h3 h4) hs1 (fun y => by rw [hs2] at y; cases y) hg
        (by omega) (fun _ _ e => e) (fun h' u tk hk => ?_) hz2
      exact ⟨.str _, H, I.kept hk, ⟨_, rfl⟩, q⟩
    | dict h1 h2 h3 h4 h5 => simp only [PyData.hasDict] at hs2; cases hs2
end G
namespace G
open PySem PySem.Spec PyProof.Rows L2

/-! ### heaps: what is kept -/
/-- x is not yet tracked -/
structure Fr (H : Hp) (x : Addr) : Prop where
  e : H x = none
theorem fr_ne {H : Hp} {a b : Addr} {o : HO} (h : H a = some o) (f : Fr H b) : a ≠ b := ne_of_none h f.e
/-- what nothing changes -/
def Fix : HO → Prop
  | .tup _ => True
  | .frz _ _ => True
  | _ => False
/-- all that H tracks is as it was, but perhaps what stands at ws -/
structure Kp (ws : List Addr) (H H' : Hp) : Prop where
  at_ : ∀ a u, H a = some u → a ∉ ws → H' a = some u
  fix : ∀ a u, H a = some u → Fix u → H' a = some u
  dom : ∀ a u, H a = some u → ∃ v, H' a = some v
section
variable {ws us : List Addr} {H H1 H2 : Hp} {p : Addr} {o u : HO}
theorem Kp.refl : Kp ws H H := ⟨fun _ _ h _ => h, fun _ _ h _ => h, fun _ u h => ⟨u, h⟩⟩
theorem Kp.trans (a : Kp ws H H1) (b : Kp ws H1 H2) : Kp ws H H2 :=
  ⟨fun c u h n => b.at_ c u (a.at_ c u h n) n, fun c u h f => b.fix c u (a.fix c u h f) f,
    fun c u h => let ⟨v, e⟩ := a.dom c u h; b.dom c v e⟩
theorem Kp.mono (a : Kp ws H H1) (h : ∀ b ∈ ws, b ∈ us) : Kp us H H1 :=
  ⟨fun c u e n => a.at_ c u e fun q => n (h c q), a.fix, a.dom⟩
theorem Kp.wide (a : Kp [] H H1) : Kp ws H H1 := a.mono fun b h => (nomatch h)
theorem Kp.free (a : Kp ws H H1) (f : Fr H1 p) : Fr H p := by
  have h := f.e
  constructor
  cases q : H p with
  | none => rfl
  | some u =>
    obtain ⟨v, e⟩ := a.dom p u q
    rw [h] at e
    cases e
theorem Kp.new (f : Fr H p) : Kp ws H (upd H p o) := by
  have h := f.e
  have k : ∀ a u, H a = some u → upd H p o a = some u := fun a u e => by
    rw [upd_ne (ne_of_none e h)]
    exact e
  exact ⟨fun a u e _ => k a u e, fun a u e _ => k a u e, fun a u e => ⟨u, k a u e⟩⟩
/-- what H does not know may be written -/
theorem Kp.upd (a : Kp ws H H1) (f : Fr H p) : Kp ws H (upd H1 p o) := by
  have h := f.e
  have k : ∀ b u, H b = some u → L2.upd H1 p o b = H1 b := fun b u e => upd_ne (ne_of_none e h)
  exact ⟨fun b u e n => (k b u e).trans (a.at_ b u e n), fun b u e f => (k b u e).trans (a.fix b u e f),
    fun b u e => let ⟨v, q⟩ := a.dom b u e; ⟨v, (k b u e).trans q⟩⟩
theorem Kp.mut (h : H p = some u) (nf : ¬ Fix u) (hp : p ∈ ws) : Kp ws H (L2.upd H p o) := by
  refine ⟨fun a v e n => ?_, fun a v e f => ?_, fun a v e => ?_⟩
  · rw [upd_ne (fun (q : a = p) => n (by rw [q]; exact hp))]
    exact e
  · have q : a ≠ p := by
      intro q
      subst q
      rw [h] at e
      cases e
      exact nf f
    rw [upd_ne q]
    exact e
  · by_cases q : a = p
    · exact ⟨o, by rw [q, upd_same]⟩
    · exact ⟨v, by rw [upd_ne q]; exact e⟩
theorem Kp.upm {ys : List V} (a : Kp ws H H1) (h : H1 p = some (.lst ys)) (hp : p ∈ ws) :
    Kp ws H (L2.upd H1 p o) := a.trans (Kp.mut h (fun z => z) hp)
/-- what H does not know need not be named -/
theorem Kp.drop (a : Kp (p :: ws) H H1) (f : Fr H p) : Kp ws H H1 :=
  have h := f.e
  ⟨fun b u e n => a.at_ b u e (fun q => (List.mem_cons.mp q).elim (fun z => by
    rw [z, h] at e
    cases e) n), a.fix, a.dom⟩
theorem Kp.dropAll (a : Kp us H H1) (h : ∀ b ∈ us, b ∈ ws ∨ Fr H b) : Kp ws H H1 :=
  ⟨fun b u e n => a.at_ b u e (fun q => (h b q).elim n (fun z => by
    rw [z.e] at e
    cases e)), a.fix, a.dom⟩
theorem Kp.seqL {K : PySem.W.Frag} {l : Addr} {xs : List V} (a : Kp ws H H1) (n : l ∉ ws)
    (h : SqL K H l xs) : SqL K H1 l xs := by
  rcases h with (h | ⟨o, h⟩) | h
  · exact .inl (.inl (a.at_ _ _ h n))
  · exact .inl (.inr ⟨o, a.fix _ _ h trivial⟩)
  · exact .inr h
theorem Kp.seqT {K : PySem.W.Frag} {l : Addr} {xs : List V} (a : Kp ws H H1)
    (h : SqT K H l xs) : SqT K H1 l xs := by
  rcases h with (h | ⟨o, h⟩) | h
  · exact .inl (.inl (a.fix _ _ h trivial))
  · exact .inl (.inr ⟨o, a.fix _ _ h trivial⟩)
  · exact .inr h
end
mutual
/-- data that nothing changes: no list, no dict -/
def imm : PyData → Bool
  | .none => true
  | .bool _ => true
  | .int _ => true
  | .str _ => true
  | .tuple xs => imms xs
  | .list _ => false
  | .dict _ => false
def imms : List PyData → Bool
  | [] => true
  | x :: xs => imm x && imms xs
end
section
variable {K : PySem.W.Frag} {ws : List Addr} {H H1 : Hp}
mutual
theorem dp_imm (k : Kp ws H H1) : ∀ (d : PyData) (v : V), imm d = true → Dp K H v d → Dp K H1 v d
  | .none, _, _, h => by cases h; exact .non
  | .bool b, _, _, h => by cases h; exact .bl b
  | .int i, _, _, h => by cases h; exact .int i
  | .str x, _, _, h => by cases h; exact .str x
  | .tuple ds, _, hi, h => by
    cases h with
    | tup hs ha => exact .tup (k.seqT hs) (dpa_imm k ds _ (by simpa only [G.imm] using hi) ha)
  | .list _, _, hi, _ => by simp only [G.imm] at hi; cases hi
  | .dict _, _, hi, _ => by simp only [G.imm] at hi; cases hi
theorem dpa_imm (k : Kp ws H H1) : ∀ (ds : List PyData) (vs : List V), imms ds = true →
    DpAll K H vs ds → DpAll K H1 vs ds
  | [], _, _, h => by cases h; exact .nil
  | d :: ds, _, hi, h => by
    simp only [imms, Bool.and_eq_true] at hi
    cases h with
    | cons h1 h2 => exact .cons (dp_imm k d _ hi.1 h1) (dpa_imm k ds _ hi.2 h2)
end
theorem dpa_len : ∀ {ds : List PyData} {vs : List V}, DpAll K H vs ds → vs.length = ds.length
  | [], _, h => by cases h; rfl
  | _ :: ds, _, h => by
    cases h with
    | cons _ h2 => rw [List.length_cons, List.length_cons, dpa_len h2]
theorem dpa_app : ∀ {ds es : List PyData} {vs ys : List V}, DpAll K H vs ds → DpAll K H ys es →
    DpAll K H (vs ++ ys) (ds ++ es)
  | [], _, _, _, h, g => by cases h; exact g
  | _ :: _, _, _, _, h, g => by
    cases h with
    | cons h1 h2 => exact .cons h1 (dpa_app h2 g)
theorem dpa_get : ∀ {ds : List PyData} {vs : List V} {i : Nat} {d : PyData}, DpAll K H vs ds →
    ds[i]? = some d → ∃ v, vs[i]? = some v ∧ Dp K H v d
  | [], _, _, _, _, e => by simp at e
  | _ :: _, _, 0, _, h, e => by
    cases h with
    | cons h1 h2 =>
      simp at e
      subst e
      exact ⟨_, rfl, h1⟩
  | _ :: _, _, i + 1, _, h, e => by
    cases h with
    | cons h1 h2 =>
      obtain ⟨v, q, r⟩ := dpa_get (i := i) h2 (by simpa using e)
      exact ⟨v, by simpa using q, r⟩
theorem dpa_getV : ∀ {ds : List PyData} {vs : List V} {i : Nat} {v : V}, DpAll K H vs ds →
    vs[i]? = some v → ∃ d, ds[i]? = some d ∧ Dp K H v d
  | [], _, _, _, h, e => by cases h; simp at e
  | _ :: _, _, 0, _, h, e => by
    cases h with
    | cons h1 h2 =>
      simp at e
      subst e
      exact ⟨_, rfl, h1⟩
  | _ :: _, _, i + 1, _, h, e => by
    cases h with
    | cons h1 h2 =>
      obtain ⟨d, q, r⟩ := dpa_getV (i := i) h2 (by simpa using e)
      exact ⟨d, by simpa using q, r⟩
theorem dpa_set : ∀ {ds : List PyData} {vs : List V} {i : Nat} {v : V} {d : PyData},
    DpAll K H vs ds → Dp K H v d → DpAll K H (vs.set i v) (ds.set i d)
  | [], _, _, _, _, h, _ => by cases h; exact .nil
  | _ :: _, _, 0, _, _, h, g => by
    cases h with
    | cons h1 h2 => exact .cons g h2
  | _ :: _, _, i + 1, _, _, h, g => by
    cases h with
    | cons h1 h2 => exact .cons h1 (dpa_set h2 g)
theorem dpa_take : ∀ {ds : List PyData} {vs : List V} (i : Nat),
    DpAll K H vs ds → DpAll K H (vs.take i) (ds.take i)
  | [], _, _, h => by cases h; simp; exact .nil
  | _ :: _, _, 0, h => by simp; exact .nil
  | _ :: _, _, i + 1, h => by
    cases h with
    | cons h1 h2 => exact .cons h1 (dpa_take i h2)
theorem dpa_drop : ∀ {ds : List PyData} {vs : List V} (i : Nat),
    DpAll K H vs ds → DpAll K H (vs.drop i) (ds.drop i)
  | [], _, _, h => by cases h; simp; exact .nil
  | _ :: _, _, 0, h => by simpa using h
  | _ :: _, _, i + 1, h => by
    cases h with
    | cons h1 h2 => exact dpa_drop i h2
theorem dpa_one {v : V} {d : PyData} (h : Dp K H v d) : DpAll K H [v] [d] := .cons h .nil
/-- a tuple of two ints -/
abbrev d2 (p : Int × Int) : PyData := .tuple [.int p.1, .int p.2]
theorem dp_pair {v : V} {p : Int × Int} (h : Dp K H v (d2 p)) :
    ∃ a, v = .ref a ∧ SqT K H a [.int p.1, .int p.2] := by
  cases h with
  | tup hs ha =>
    cases ha with
    | cons h1 h2 =>
      cases h2 with
      | cons h3 h4 =>
        cases h4
        cases h1
        cases h3
        exact ⟨_, rfl, hs⟩
theorem dp_mk2 {a : Addr} {m n : Int} (h : SqT K H a [.int m, .int n]) :
    Dp K H (.ref a) (d2 (m, n)) := .tup h (.cons (.int m) (.cons (.int n) .nil))
theorem imms_d2 : ∀ l : List (Int × Int), imms (l.map d2) = true
  | [] => rfl
  | _ :: l => by
    simp only [List.map_cons, imms, G.imm, imms_d2 l]
    rfl
/-- a list of our own, of data that nothing changes -/
def LD (K : PySem.W.Frag) (H : Hp) (l : Addr) (ds : List PyData) : Prop :=
  ∃ vs, H l = some (.lst vs) ∧ DpAll K H vs ds
theorem LD.dp {l : Addr} {ds : List PyData} (h : LD K H l ds) : Dp K H (.ref l) (.list ds) := by
  obtain ⟨vs, e, q⟩ := h
  exact .lst (SqL.of e) q
theorem LD.kp {l : Addr} {ds : List PyData} (h : LD K H l ds) (k : Kp ws H H1) (hi : imms ds = true)
    (n : l ∉ ws) : LD K H1 l ds := by
  obtain ⟨vs, e, q⟩ := h
  exact ⟨vs, k.at_ _ _ e n, dpa_imm k _ _ hi q⟩
theorem LD.some {l : Addr} {ds : List PyData} (h : LD K H l ds) : H l ≠ none := by
  obtain ⟨vs, e, q⟩ := h
  rw [e]
  exact fun y => nomatch y
end
end G
namespace G
open PySem PySem.Spec PyProof.Rows L2

/-! ### one rule for several kinds of values -/
theorem orR {X : Cx} {f : Value → Value → Sem Value} {r r' : R2} (h : OpR X f r) (h' : OpR X f r') :
    OpR X f (fun x y H Q => r x y H Q ∨ r' x y H Q) := by
  intro pins s σ H x y v u Q I rx ry q
  cases q with
  | inl q => exact h pins s σ H x y v u Q I rx ry q
  | inr q => exact h' pins s σ H x y v u Q I rx ry q
theorem orC {X : Cx} {f : Value} {r r' : List V → Hp → VK → Prop} (h : CallR X f r)
    (h' : CallR X f r') : CallR X f (fun xs H Q => r xs H Q ∨ r' xs H Q) := by
  intro pins s σ H xs us Q I rx q
  cases q with
  | inl q => exact h pins s σ H xs us Q I rx q
  | inr q => exact h' pins s σ H xs us Q I rx q
def uAdd (K : PySem.W.Frag) : R2 := fun x y H Q => rI0 (fun i j => .int (i + j)) x y H Q ∨
  (∃ i j, x = .str i ∧ y = .str j ∧ i.length + j.length ≤ sizeLine ∧ Q (.str (i ++ j)) H) ∨
  rCat x y H Q ∨ rCatT K x y H Q
def uMul : R2 := fun x y H Q => rI CMul (fun i j => .int (i * j)) x y H Q ∨
  rI CMulW (fun i j => .int (i * j)) x y H Q ∨ rRep x y H Q
def uEq (K : PySem.W.Frag) : R2 := fun x y H Q => rEq x y H Q ∨ rEqD K x y H Q
def uNe (K : PySem.W.Frag) : R2 := fun x y H Q => rNe x y H Q ∨ rNeD K x y H Q
def uIx (K : PySem.W.Frag) : R2 := fun x y H Q => rIxL K x y H Q ∨ rIxT K x y H Q ∨ rIxS x y H Q
def uLen (K : PySem.W.Frag) : List V → Hp → VK → Prop := fun xs H Q =>
  (∃ p ys, xs = [.ref p] ∧ (SqL K H p ys ∨ SqT K H p ys) ∧ Q (.int ys.length) H) ∨
  (∃ z, xs = [.str z] ∧ z.length ≤ sizeLine ∧ Q (.int z.length) H)
section
variable {X : Cx}
theorem o_add : OpR X (binaryOp .Add) (uAdd X.K) := orR op_add (orR op_add_str (orR op_cat op_catT))
theorem o_mul : OpR X (binaryOp .Mult) uMul := orR op_mul (orR op_mulW op_rep)
theorem o_eq (hu : X.A.units + 64 < cLine) : OpR X (compareOp .Eq) (uEq X.K) := orR op_eq (op_eqD hu)
theorem o_ne (hu : X.A.units + 64 < cLine) : OpR X (compareOp .NotEq) (uNe X.K) := orR op_ne (op_neD hu)
theorem o_ix : IxR X (uIx X.K) := ix_list.or (ix_tup.or ix_str)
theorem c_len : CallR X (.builtin "len") (uLen X.K) := orC call_len_seq call_len_str
end

/-! ### readings from the front -/
section
variable {K : PySem.W.Frag} {σ : L2.St} {H : Hp} {Q : VK} {D : Ends} {t1 t2 : TS} {te ta tb tc : TE}
variable {i j : Nat} {v x y : V} {c u : TT} {tr : TA} {n m : Int} {b : Bool} {p : Addr}
variable {QB : Bool → Hp → Prop} {QA : List V → Hp → Prop} {xs : List V}
theorem i_seq (h : t1 { D with nx := t2 D } σ H) : tSeq t1 t2 D σ H := h
instance red_i_seq  : Red (tSeq t1 t2 D σ H) (t1 { D with nx := t2 D } σ H) := ⟨i_seq⟩
theorem i_next (h : D.nx σ H) : tNext D σ H := h
instance red_i_next  : Red (tNext D σ H) (D.nx σ H) := ⟨i_next⟩
theorem i_set (h : te σ H fun x H1 => D.nx (σ.set i (some x)) H1) : tAsg te (gName i) D σ H := h
instance red_i_set  : Red (tAsg te (gName i) D σ H) (te σ H fun x H1 => D.nx (σ.set i (some x)) H1) := ⟨i_set⟩
theorem i_asg {g : TG} (h : te σ H fun x H1 => g x σ H1 D.nx) : tAsg te g D σ H := h
instance (priority := 900) red_i_asg {g : TG} : Red (tAsg te g D σ H) (te σ H fun x H1 => g x σ H1 D.nx) := ⟨i_asg⟩
theorem i_drop (h : te σ H fun _ H1 => D.nx σ H1) : tDrop te D σ H := h
instance red_i_drop  : Red (tDrop te D σ H) (te σ H fun _ H1 => D.nx σ H1) := ⟨i_drop⟩
theorem i_ret (h : te σ H D.rt) : tRet te D σ H := h
instance red_i_ret  : Red (tRet te D σ H) (te σ H D.rt) := ⟨i_ret⟩
theorem i_retN (h : D.rt .non H) : tRetN D σ H := h
instance red_i_retN  : Red (tRetN D σ H) (D.rt .non H) := ⟨i_retN⟩
theorem i_brk (h : D.bk σ H) : tBreak D σ H := h
instance red_i_brk  : Red (tBreak D σ H) (D.bk σ H) := ⟨i_brk⟩
theorem i_cont (h : D.ct σ H) : tCont D σ H := h
instance red_i_cont  : Red (tCont D σ H) (D.ct σ H) := ⟨i_cont⟩
theorem i_ifS (h : c σ H fun b H1 => if b = true then t1 D σ H1 else t2 D σ H1) : tIfS c t1 t2 D σ H := h
instance red_i_ifS  : Red (tIfS c t1 t2 D σ H) (c σ H fun b H1 => if b = true then t1 D σ H1 else t2 D σ H1) := ⟨i_ifS⟩
theorem i_aug {ti : TIp} (e : σ[i]? = some (some x))
    (h : te σ H fun y H1 => ti x y H1 fun z H2 => D.nx (σ.set i (some z)) H2) : tAug i te ti D σ H := ⟨x, e, h⟩
theorem i_ipI {f : Int → Int → Int} (h : Q (.int (f n m)) H) : ipI f (.int n) (.int m) H Q := ⟨n, m, rfl, rfl, h⟩
instance red_i_ipI {f : Int → Int → Int} : Red (ipI f (.int n) (.int m) H Q) (Q (.int (f n m)) H) := ⟨i_ipI⟩
theorem i_par {i j : Nat} {tt : TA}
    (h : tt σ H fun vs H1 => ∃ v w, vs = [v, w] ∧ D.nx ((σ.set i (some v)).set j (some w)) H1) :
    tPar i j tt D σ H := h
instance red_i_par {i j : Nat} {tt : TA} : Red (tPar i j tt D σ H) (tt σ H fun vs H1 => ∃ v w, vs = [v, w] ∧ D.nx ((σ.set i (some v)).set j (some w)) H1) := ⟨i_par⟩
theorem i_two {P : V → V → Prop} (h : P x y) : ∃ v w, [x, y] = [v, w] ∧ P v w := ⟨x, y, rfl, h⟩

instance red_i_two {P : V → V → Prop} : Red (∃ v w, [x, y] = [v, w] ∧ P v w) (P x y) := ⟨i_two⟩
theorem i_var (e : σ[i]? = some (some v)) (h : Q v H) : tVar i σ H Q := ⟨v, e, h⟩
theorem i_c (h : Q v H) : tC v σ H Q := h
instance red_i_c  : Red (tC v σ H Q) (Q v H) := ⟨i_c⟩
theorem i_op {r : R2} (h : ta σ H fun x H1 => tb σ H1 fun y H2 => r x y H2 Q) : tOp r ta tb σ H Q := h
instance red_i_op {r : R2} : Red (tOp r ta tb σ H Q) (ta σ H fun x H1 => tb σ H1 fun y H2 => r x y H2 Q) := ⟨i_op⟩
theorem i_un {r : V → Hp → VK → Prop} (h : ta σ H fun x H1 => r x H1 Q) : tUn r ta σ H Q := h
instance red_i_un {r : V → Hp → VK → Prop} : Red (tUn r ta σ H Q) (ta σ H fun x H1 => r x H1 Q) := ⟨i_un⟩
theorem i_I0 {g : Int → Int → V} (h : Q (g n m) H) : rI0 g (.int n) (.int m) H Q := ⟨n, m, rfl, rfl, h⟩
instance red_i_I0 {g : Int → Int → V} : Red (rI0 g (.int n) (.int m) H Q) (Q (g n m) H) := ⟨i_I0⟩
theorem i_I {g : Int → Int → V} {C : Int → Int → Prop} (hc : C n m) (h : Q (g n m) H) :
    rI C g (.int n) (.int m) H Q := ⟨n, m, rfl, rfl, hc, h⟩
theorem i_U {g : Int → V} (h : Q (g n) H) : rU g (.int n) H Q := ⟨n, rfl, h⟩
instance red_i_U {g : Int → V} : Red (rU g (.int n) H Q) (Q (g n) H) := ⟨i_U⟩
theorem i_addI (h : Q (.int (n + m)) H) : uAdd K (.int n) (.int m) H Q := .inl ⟨n, m, rfl, rfl, h⟩
instance red_i_addI  : Red (uAdd K (.int n) (.int m) H Q) (Q (.int (n + m)) H) := ⟨i_addI⟩
theorem i_addS {z w : Str} (hz : z.length + w.length ≤ sizeLine) (h : Q (.str (z ++ w)) H) :
    uAdd K (.str z) (.str w) H Q := .inr (.inl ⟨z, w, rfl, rfl, hz, h⟩)
theorem i_mulI (hc : CMul n m) (h : Q (.int (n * m)) H) : uMul (.int n) (.int m) H Q :=
  .inl ⟨n, m, rfl, rfl, hc, h⟩
theorem i_mulW (hc : CMulW n m) (h : Q (.int (n * m)) H) : uMul (.int n) (.int m) H Q :=
  .inr (.inl ⟨n, m, rfl, rfl, hc, h⟩)
theorem i_eqI (h : Q (.bl (decide (n = m))) H) : uEq K (.int n) (.int m) H Q := by
  refine .inl ⟨rfl, ?_⟩
  have e : decide (V.int n = V.int m) = decide (n = m) := by
    rw [Bool.eq_iff_iff]
    simp
  rw [e]
  exact h
instance red_i_eqI  : Red (uEq K (.int n) (.int m) H Q) (Q (.bl (decide (n = m))) H) := ⟨i_eqI⟩
theorem i_neI (h : Q (.bl (!decide (n = m))) H) : uNe K (.int n) (.int m) H Q := by
  refine .inl ⟨rfl, ?_⟩
  have e : decide (V.int n = V.int m) = decide (n = m) := by
    rw [Bool.eq_iff_iff]
    simp
  rw [e]
  exact h
instance red_i_neI  : Red (uNe K (.int n) (.int m) H Q) (Q (.bl (!decide (n = m))) H) := ⟨i_neI⟩
theorem i_eqS {z w : Str} (h : Q (.bl (decide (z = w))) H) : uEq K (.str z) (.str w) H Q := by
  refine .inl ⟨rfl, ?_⟩
  have e : decide (V.str z = V.str w) = decide (z = w) := by
    rw [Bool.eq_iff_iff]
    simp
  rw [e]
  exact h
instance red_i_eqS {z w : Str} : Red (uEq K (.str z) (.str w) H Q) (Q (.bl (decide (z = w))) H) := ⟨i_eqS⟩
theorem i_neS {z w : Str} (h : Q (.bl (!decide (z = w))) H) : uNe K (.str z) (.str w) H Q := by
  refine .inl ⟨rfl, ?_⟩
  have e : decide (V.str z = V.str w) = decide (z = w) := by
    rw [Bool.eq_iff_iff]
    simp
  rw [e]
  exact h
instance red_i_neS {z w : Str} : Red (uNe K (.str z) (.str w) H Q) (Q (.bl (!decide (z = w))) H) := ⟨i_neS⟩
theorem i_eqD {d e : PyData} (hd : Dp K H x d) (he : Dp K H y e) (sd : SeqAt.shaped d = true)
    (se : SeqAt.shaped e = true) (h : Q (.bl (PyData.eqv d e)) H) : uEq K x y H Q :=
  .inr ⟨d, e, hd, he, sd, se, h⟩
theorem i_neD {d e : PyData} (hd : Dp K H x d) (he : Dp K H y e) (sd : SeqAt.shaped d = true)
    (se : SeqAt.shaped e = true) (h : Q (.bl (!PyData.eqv d e)) H) : uNe K x y H Q :=
  .inr ⟨d, e, hd, he, sd, se, h⟩
theorem i_ixL (hs : SqL K H p xs) (ha : atI xs n = some v) (h : Q v H) :
    uIx K (.ref p) (.int n) H Q := .inl ⟨p, xs, n, v, rfl, rfl, hs, ha, h⟩
theorem i_ixT (hs : SqT K H p xs) (ha : atI xs n = some v) (h : Q v H) :
    uIx K (.ref p) (.int n) H Q := .inr (.inl ⟨p, xs, n, v, rfl, rfl, hs, ha, h⟩)
theorem i_lenL (hs : SqL K H p xs) (h : Q (.int xs.length) H) : uLen K [.ref p] H Q :=
  .inl ⟨p, xs, rfl, .inl hs, h⟩
theorem i_lenT (hs : SqT K H p xs) (h : Q (.int xs.length) H) : uLen K [.ref p] H Q :=
  .inl ⟨p, xs, rfl, .inr hs, h⟩
theorem i_lenS {z : Str} (hz : z.length ≤ sizeLine) (h : Q (.int z.length) H) : uLen K [.str z] H Q :=
  .inr ⟨z, rfl, hz, h⟩

theorem i_test (h : te σ H fun x H1 => ∃ k, x = .bl k ∧ QB k H1) : tTest te σ H QB := h
instance red_i_test  : Red (tTest te σ H QB) (te σ H fun x H1 => ∃ k, x = .bl k ∧ QB k H1) := ⟨i_test⟩
theorem i_B (h : te σ H fun x H1 => ∃ k, x = .bl k ∧ QB k H1) : tB te σ H QB := h
instance red_i_B  : Red (tB te σ H QB) (te σ H fun x H1 => ∃ k, x = .bl k ∧ QB k H1) := ⟨i_B⟩
theorem i_bl {P : Bool → Prop} (h : P b) : ∃ k, V.bl b = .bl k ∧ P k := ⟨b, rfl, h⟩
instance red_i_bl {P : Bool → Prop} : Red (∃ k, V.bl b = .bl k ∧ P k) (P b) := ⟨i_bl⟩
theorem i_and (h : c σ H fun b H1 => if b = true then u σ H1 QB else QB false H1) : tAnd c u σ H QB := h
instance red_i_and  : Red (tAnd c u σ H QB) (c σ H fun b H1 => if b = true then u σ H1 QB else QB false H1) := ⟨i_and⟩
theorem i_or (h : c σ H fun b H1 => if b = true then QB true H1 else u σ H1 QB) : tOr c u σ H QB := h
instance red_i_or  : Red (tOr c u σ H QB) (c σ H fun b H1 => if b = true then QB true H1 else u σ H1 QB) := ⟨i_or⟩
theorem i_not (h : c σ H fun b H1 => QB (!b) H1) : tNot c σ H QB := h
instance red_i_not  : Red (tNot c σ H QB) (c σ H fun b H1 => QB (!b) H1) := ⟨i_not⟩
theorem i_andV (h : ta σ H fun x H1 => ∃ k, x = .bl k ∧ if k = true then tb σ H1 Q else Q (.bl false) H1) :
    tAndV ta tb σ H Q := h
instance red_i_andV  : Red (tAndV ta tb σ H Q) (ta σ H fun x H1 => ∃ k, x = .bl k ∧ if k = true then tb σ H1 Q else Q (.bl false) H1) := ⟨i_andV⟩
theorem i_orV (h : ta σ H fun x H1 => ∃ k, x = .bl k ∧ if k = true then Q (.bl true) H1 else tb σ H1 Q) :
    tOrV ta tb σ H Q := h
instance red_i_orV  : Red (tOrV ta tb σ H Q) (ta σ H fun x H1 => ∃ k, x = .bl k ∧ if k = true then Q (.bl true) H1 else tb σ H1 Q) := ⟨i_orV⟩
theorem i_notV (h : ta σ H fun x H1 => ∃ k, x = .bl k ∧ Q (.bl (!k)) H1) : tNotV ta σ H Q := h
instance red_i_notV  : Red (tNotV ta σ H Q) (ta σ H fun x H1 => ∃ k, x = .bl k ∧ Q (.bl (!k)) H1) := ⟨i_notV⟩
theorem i_ifE (h : c σ H fun b H1 => if b = true then ta σ H1 Q else tb σ H1 Q) : tIf c ta tb σ H Q := h
instance red_i_ifE  : Red (tIf c ta tb σ H Q) (c σ H fun b H1 => if b = true then ta σ H1 Q else tb σ H1 Q) := ⟨i_ifE⟩
theorem i_chain {r r' : R2} (h : ta σ H fun x H1 => tb σ H1 fun y H2 => r x y H2 fun z H3 =>
    ∃ k, z = .bl k ∧ if k = true then tc σ H3 fun w H4 => r' y w H4 Q else Q (.bl false) H3) :
    tChain r r' ta tb tc σ H Q := h
instance red_i_chain {r r' : R2} : Red (tChain r r' ta tb tc σ H Q) (ta σ H fun x H1 => tb σ H1 fun y H2 => r x y H2 fun z H3 =>
    ∃ k, z = .bl k ∧ if k = true then tc σ H3 fun w H4 => r' y w H4 Q else Q (.bl false) H3) := ⟨i_chain⟩
theorem i_nil (h : QA [] H) : tNil σ H QA := h
instance red_i_nil  : Red (tNil σ H QA) (QA [] H) := ⟨i_nil⟩
theorem i_cons (h : te σ H fun x H1 => tr σ H1 fun xs H2 => QA (x :: xs) H2) : tCons te tr σ H QA := h
instance red_i_cons  : Red (tCons te tr σ H QA) (te σ H fun x H1 => tr σ H1 fun xs H2 => QA (x :: xs) H2) := ⟨i_cons⟩
/-- for any new place -/
def New (H : Hp) (P : Addr → Prop) : Prop := ∀ p, H p = none → P p
theorem i_new {P : Addr → Prop} (h : ∀ p, Fr H p → P p) : New H P := fun p e => h p ⟨e⟩
theorem i_tup (h : tr σ H fun xs H1 => xs.length ≤ sizeLine ∧ New H1 fun p => Q (.ref p) (upd H1 p (.tup xs))) :
    tTup tr σ H Q := h
instance red_i_tup  : Red (tTup tr σ H Q) (tr σ H fun xs H1 => xs.length ≤ sizeLine ∧ New H1 fun p => Q (.ref p) (upd H1 p (.tup xs))) := ⟨i_tup⟩
theorem i_lst (h : tr σ H fun xs H1 => xs.length ≤ sizeLine ∧ New H1 fun p => Q (.ref p) (upd H1 p (.lst xs))) :
    tLst tr σ H Q := h
instance red_i_lst  : Red (tLst tr σ H Q) (tr σ H fun xs H1 => xs.length ≤ sizeLine ∧ New H1 fun p => Q (.ref p) (upd H1 p (.lst xs))) := ⟨i_lst⟩
theorem i_few {P : Prop} {n : Nat} (hn : n ≤ 1000) (h : P) : n ≤ sizeLine ∧ P :=
  ⟨Nat.le_trans hn (by decide), h⟩
theorem i_CB {r : List V → Hp → VK → Prop} (h : tr σ H fun vs H1 => r vs H1 Q) : tCB r tr σ H Q := h
instance red_i_CB {r : List V → Hp → VK → Prop} : Red (tCB r tr σ H Q) (tr σ H fun vs H1 => r vs H1 Q) := ⟨i_CB⟩
theorem i_call {sp : Sp} {dvs : List V} {E : XK} (h : tr σ H fun vs H1 => sp (vs ++ dvs) H1 Q E) :
    tCall sp dvs E tr σ H Q := h
instance (priority := 900) red_i_call {sp : Sp} {dvs : List V} {E : XK} : Red (tCall sp dvs E tr σ H Q) (tr σ H fun vs H1 => sp (vs ++ dvs) H1 Q E) := ⟨i_call⟩
theorem i_BM {T : String} {r : V → List V → Hp → VK → Prop}
    (h : te σ H fun x H1 => tyV K T x H1 ∧ tr σ H1 fun xs H2 => r x xs H2 Q) : tBM K T r te tr σ H Q := h
instance red_i_BM {T : String} {r : V → List V → Hp → VK → Prop} : Red (tBM K T r te tr σ H Q) (te σ H fun x H1 => tyV K T x H1 ∧ tr σ H1 fun xs H2 => r x xs H2 Q) := ⟨i_BM⟩
theorem i_BM0 {T : String} {r : V → List V → Hp → VK → Prop}
    (h : te σ H fun x H1 => tyV K T x H1 ∧ r x [] H1 Q) : tBM0 K T r te σ H Q := h
instance red_i_BM0 {T : String} {r : V → List V → Hp → VK → Prop} : Red (tBM0 K T r te σ H Q) (te σ H fun x H1 => tyV K T x H1 ∧ r x [] H1 Q) := ⟨i_BM0⟩
theorem i_tyL {P : Prop} (hs : SqL K H p xs) (h : P) : tyV K "list" (.ref p) H ∧ P :=
  ⟨.inl ⟨rfl, xs, hs⟩, h⟩
theorem i_app (hs : H p = some (.lst xs)) (hz : xs.length < sizeLine)
    (h : Q .non (upd H p (.lst (xs ++ [y])))) : rAppend (.ref p) [y] H Q := ⟨p, xs, y, rfl, rfl, hs, hz, h⟩
theorem i_repr {d : PyData} (hd : Dp K H x d) (hs : shw d = true) (hdp : d.depth ≤ 60)
    (hz : cw d ≤ sizeLine) (h : Q (.str d.shown) H) : rRepr K [x] H Q := ⟨x, d, rfl, hd, hs, hdp, hz, h⟩
theorem i_setL {S : Hp → Prop} {k : Nat} (hs : H p = some (.lst xs)) (hj : ixN xs.length n = some k)
    (h : S (upd H p (.lst (xs.set k v)))) : rSetL (.ref p) (.int n) v H S := ⟨p, xs, n, k, rfl, rfl, hs, hj, h⟩
theorem i_iList {R : It → Hp → Prop} (h : te σ H fun x H1 => ∃ a, x = .ref a ∧ (∃ xs, SqL K H1 a xs) ∧ R (Itl K a) H1) :
    iList K te σ H R := h
theorem i_For {wi : TI} {g : TG} (h : wi σ H fun J H1 => ∃ W : Nat → Nat → L2.St → Hp → Prop, (∃ m, W 0 m σ H1) ∧ ∀ i m σ H, W i m σ H →
    (J.stop i H ∧ D.nx σ H) ∨ (J.go i H ∧ ∃ Nx : L2.St → Hp → Prop, (∀ σ' H', Nx σ' H' → ∃ m', m' < m ∧ W (i + 1) m' σ' H') ∧
      ∀ x H', J.yld i H x H' → g x σ H' fun σ2 H2 => t1 { D with nx := Nx, ct := Nx, bk := D.nx } σ2 H2)) :
    tFor wi g t1 D σ H := h
theorem i_iteT {A B : Prop} (h : A) : if true = true then A else B := iteT h
instance red_i_iteT {A B : Prop} : Red (if true = true then A else B) (A) := ⟨i_iteT⟩
theorem i_iteF {A B : Prop} (h : B) : if false = true then A else B := iteF h
instance red_i_iteF {A B : Prop} : Red (if false = true then A else B) (B) := ⟨i_iteF⟩
theorem i_ntT {A B : Prop} (h : B) : if (!true) = true then A else B := iteF h
instance red_i_ntT {A B : Prop} : Red (if (!true) = true then A else B) (B) := ⟨i_ntT⟩
theorem i_ntF {A B : Prop} (h : A) : if (!false) = true then A else B := iteT h
instance red_i_ntF {A B : Prop} : Red (if (!false) = true then A else B) (A) := ⟨i_ntF⟩
theorem i_dec {p A B : Prop} [Decidable p] (h1 : p → A) (h2 : ¬ p → B) :
    if decide p = true then A else B := by
  by_cases h : p
  · rw [decide_eq_true h]
    exact iteT (h1 h)
  · rw [decide_eq_false h]
    exact iteF (h2 h)
theorem i_decN {p A B : Prop} [Decidable p] (h1 : ¬ p → A) (h2 : p → B) :
    if (!decide p) = true then A else B := by
  by_cases h : p
  · rw [decide_eq_true h]
    exact iteF (h2 h)
  · rw [decide_eq_false h]
    exact iteT (h1 h)
theorem i_boo {b : Bool} {A B : Prop} (h1 : b = true → A) (h2 : b = false → B) :
    if b = true then A else B := by
  cases b
  · exact iteF (h2 rfl)
  · exact iteT (h1 rfl)
end
section
variable {P : Program} {w : World} {K : PySem.W.Frag} {mg : Str → Option Value} {base : Heap}
/-- a def of the text, by its body -/
theorem okG {x qual : Str} {st : Stmt} {f : Addr} {fd : FuncData} {N ps : List Str} {k : Nat} {sp : Sp}
    (F : L2.Fun K x qual st f fd) (S : FnScope N ps (defScope st))
    (len : ∀ vs H Q E, sp vs H Q E → vs.length = ps.length)
    (hb : ∀ (cdv : Value) (A : Around) (outer : List Env) (s : Shared) (H : Hp) (vs : List V)
      (Q : VK) (E : XK), RoomG k (A.deeper (envOfC qual (defScope st) s.heap.objs.size f cdv)) →
      sp vs H Q E →
      ∃ t, PSs (cxOf (L2.CX P w) P w K mg base N qual (defScope st) f cdv A outer s H E) (defBody st) t ∧
        t { nx := fun _ H' => Q .non H', rt := Q } (start N vs) H) :
    FnG P w K mg base (k + 1) f fd ps sp := by
  obtain ⟨oc, od, kV, doc, pm, an, cdv, ct, osl, rfl, lk, hcd⟩ := F.ex
  exact FnG.body lk hcd S len fun A outer s H vs Q E z h => hb cdv A outer s H vs Q E z h
end
end G
namespace G
open PySem PySem.Spec PyProof.Rows L2
section
variable {K : PySem.W.Frag} {σ : L2.St} {H : Hp} {Q : VK} {D : Ends} {tb : TS} {te : TE} {g : TG}
variable {a p q l : Addr} {xs vs : List V} {v x y : V} {ds : List PyData} {S : L2.St → Hp → Prop}
theorem st_1 {N : List Str} {a : V} : L2.start N [a] = some a :: List.replicate (N.length - 1) none := rfl
theorem st_2 {N : List Str} {a b : V} : L2.start N [a, b] = some a :: some b :: List.replicate (N.length - 2) none := rfl
theorem st_3 {N : List Str} {a b c : V} :
    L2.start N [a, b, c] = some a :: some b :: some c :: List.replicate (N.length - 3) none := rfl
theorem st_4 {N : List Str} {a b c d : V} : L2.start N [a, b, c, d] =
    some a :: some b :: some c :: some d :: List.replicate (N.length - 4) none := rfl
theorem st_5 {N : List Str} {a b c d e : V} : L2.start N [a, b, c, d, e] =
    some a :: some b :: some c :: some d :: some e :: List.replicate (N.length - 5) none := rfl
theorem st_6 {N : List Str} {a b c d e f : V} : L2.start N [a, b, c, d, e, f] =
    some a :: some b :: some c :: some d :: some e :: some f :: List.replicate (N.length - 6) none := rfl
theorem i_gTup {n : Nat} {t : TGs} (hs : SqT K H p xs) (hl : xs.length = n) (h : t xs σ H S) :
    gTup K n t (.ref p) σ H S := ⟨p, xs, rfl, hs, hl, h⟩
theorem i_gCons {t : TG} {u : TGs} (h : t v σ H fun σ' H' => u xs σ' H' S) :
    gCons t u (v :: xs) σ H S := ⟨v, xs, rfl, h⟩
instance red_i_gCons {t : TG} {u : TGs} : Red (gCons t u (v :: xs) σ H S) (t v σ H fun σ' H' => u xs σ' H' S) := ⟨i_gCons⟩
theorem i_gNil (h : S σ H) : gNil [] σ H S := ⟨rfl, h⟩
instance red_i_gNil  : Red (gNil [] σ H S) (S σ H) := ⟨i_gNil⟩
theorem i_gName {i : Nat} (h : S (σ.set i (some v)) H) : gName i v σ H S := h
instance red_i_gName {i : Nat} : Red (gName i v σ H S) (S (σ.set i (some v)) H) := ⟨i_gName⟩
theorem i_gSub {to ti : TE} {t : TSet} (h : to σ H fun o H1 => ti σ H1 fun i H2 => t o i v H2 fun H3 => S σ H3) :
    gSub to ti t v σ H S := h
instance red_i_gSub {to ti : TE} {t : TSet} : Red (gSub to ti t v σ H S) (to σ H fun o H1 => ti σ H1 fun i H2 => t o i v H2 fun H3 => S σ H3) := ⟨i_gSub⟩
/-- a for over x, a list -/
def ForL (K : PySem.W.Frag) (x : V) (g : TG) (tb : TS) (D : Ends) (σ : L2.St) (H : Hp) : Prop :=
  ∃ a, x = .ref a ∧ (∃ ys, SqL K H a ys) ∧ ∃ W : Nat → Nat → L2.St → Hp → Prop,
    (∃ m, W 0 m σ H) ∧ ∀ i m σ H, W i m σ H → ((Itl K a).stop i H ∧ D.nx σ H) ∨
      ((Itl K a).go i H ∧ ∃ Nx : L2.St → Hp → Prop,
        (∀ σ' H', Nx σ' H' → ∃ m', m' < m ∧ W (i + 1) m' σ' H') ∧
        ∀ x H', (Itl K a).yld i H x H' → g x σ H' fun σ2 H2 =>
          tb { D with nx := Nx, ct := Nx, bk := D.nx } σ2 H2)
theorem i_forL (h : te σ H fun x H1 => ForL K x g tb D σ H1) : tFor (iList K te) g tb D σ H := h
instance red_i_forL  : Red (tFor (iList K te) g tb D σ H) (te σ H fun x H1 => ForL K x g tb D σ H1) := ⟨i_forL⟩
theorem i_each (hs : SqL K H a xs) (Pv : Nat → L2.St → Hp → Prop) (h0 : Pv 0 σ H)
    (hl : ∀ i σ H, i ≤ xs.length → Pv i σ H → SqL K H a xs)
    (st : ∀ i x σ H, xs[i]? = some x → Pv i σ H → g x σ H fun σ2 H2 =>
      tb { D with nx := Pv (i + 1), ct := Pv (i + 1), bk := D.nx } σ2 H2)
    (hd : ∀ σ H, Pv xs.length σ H → D.nx σ H) : ForL K (.ref a) g tb D σ H :=
  ⟨a, rfl, ⟨_, hs⟩, for_list Pv h0 hl st hd⟩
/-- a for over range(n) -/
def ForR (vs : List V) (g : TG) (tb : TS) (D : Ends) (σ : L2.St) (H : Hp) : Prop :=
  ∃ j : Int, vs = [.int j] ∧ -(2 ^ 62) ≤ j ∧ j < 2 ^ 62 ∧
    ∃ W : Nat → Nat → L2.St → Hp → Prop, (∃ m, W 0 m σ H) ∧ ∀ i m σ H, W i m σ H →
      ((Itr 0 j.toNat).stop i H ∧ D.nx σ H) ∨ ((Itr 0 j.toNat).go i H ∧ ∃ Nx : L2.St → Hp → Prop,
        (∀ σ' H', Nx σ' H' → ∃ m', m' < m ∧ W (i + 1) m' σ' H') ∧
        ∀ x H', (Itr 0 j.toNat).yld i H x H' → g x σ H' fun σ2 H2 =>
          tb { D with nx := Nx, ct := Nx, bk := D.nx } σ2 H2)
theorem i_forR {ta : TA} (h : ta σ H fun vs H1 => ForR vs g tb D σ H1) : tFor (iRng1 ta) g tb D σ H := h
instance red_i_forR {ta : TA} : Red (tFor (iRng1 ta) g tb D σ H) (ta σ H fun vs H1 => ForR vs g tb D σ H1) := ⟨i_forR⟩
theorem i_turns {n : Int} (b1 : 0 ≤ n) (b2 : n < 2 ^ 62) (Pv : Nat → L2.St → Hp → Prop) (h0 : Pv 0 σ H)
    (st : ∀ (i : Nat) σ H, (i : Int) < n → Pv i σ H → g (.int i) σ H fun σ2 H2 =>
      tb { D with nx := Pv (i + 1), ct := Pv (i + 1), bk := D.nx } σ2 H2)
    (hd : ∀ σ H, Pv n.toNat σ H → D.nx σ H) : ForR [.int n] g tb D σ H := by
  refine ⟨n, rfl, by omega, b2, for_range Pv h0 (fun i σ H hi q => ?_) hd⟩
  have e : V.int (0 + (i : Int)) = V.int i := by rw [Int.zero_add]
  rw [e]
  exact st i σ H (by omega) q

theorem canLay_pairs : ∀ l : List (Int × Int), PyData.canLayAll0 (l.map d2) = true
  | [] => rfl
  | p :: l => by
    simp only [List.map_cons, PyData.canLayAll0, PyData.canLay0, canLay_pairs l]
    rfl
theorem depth_pairs : ∀ l : List (Int × Int), PyData.depthAll (l.map d2) ≤ 1
  | [] => Nat.zero_le _
  | p :: l => by
    simp only [List.map_cons, PyData.depthAll, PyData.depth]
    have q := depth_pairs l
    omega
theorem shaped_of {d : PyData} (h : d.canLay0 = true) (hd : d.depth ≤ 64) : SeqAt.shaped d = true := by
  unfold SeqAt.shaped
  rw [h, decide_eq_true hd]
  rfl
theorem shaped_pairs (l : List (Int × Int)) : SeqAt.shaped (.list (l.map d2)) = true := by
  refine shaped_of ?_ ?_
  · simp only [PyData.canLay0]
    exact canLay_pairs l
  · simp only [PyData.depth]
    have q := depth_pairs l
    omega
theorem shaped_nil : SeqAt.shaped (.list []) = true := by decide +kernel
theorem eqv_nil (ds : List PyData) : PyData.eqv (.list ds) (.list []) = ds.isEmpty := by
  cases ds <;> simp [PyData.eqv, PyData.eqvAll]
/-- xs == [], xs != [] -/
theorem eq_nil (ld : LD K H l ds) (hi : imms ds = true) (hs : SeqAt.shaped (.list ds) = true)
    (hq : Fr H q) (h : Q (.bl ds.isEmpty) (upd H q (.lst []))) :
    uEq K (.ref l) (.ref q) (upd H q (.lst [])) Q := by
  refine i_eqD (LD.dp (ld.kp (Kp.new hq) hi List.not_mem_nil)) (.lst (SqL.of upd_same) .nil) hs
    shaped_nil ?_
  rw [eqv_nil]
  exact h
theorem ne_nil (ld : LD K H l ds) (hi : imms ds = true) (hs : SeqAt.shaped (.list ds) = true)
    (hq : Fr H q) (h : Q (.bl (!ds.isEmpty)) (upd H q (.lst []))) :
    uNe K (.ref l) (.ref q) (upd H q (.lst [])) Q := by
  refine i_neD (LD.dp (ld.kp (Kp.new hq) hi List.not_mem_nil)) (.lst (SqL.of upd_same) .nil) hs
    shaped_nil ?_
  rw [eqv_nil]
  exact h
theorem dpa_last {d : PyData} : ∀ {ds : List PyData} {vs : List V}, DpAll K H vs (ds ++ [d]) →
    ∃ us x, vs = us ++ [x] ∧ DpAll K H us ds ∧ Dp K H x d
  | [], _, h => by
    cases h with
    | cons h1 h2 =>
      cases h2
      exact ⟨[], _, rfl, .nil, h1⟩
  | _ :: ds, _, h => by
    cases h with
    | cons h1 h2 =>
      obtain ⟨us, x, e, q1, q2⟩ := dpa_last h2
      exact ⟨_ :: us, x, by rw [e]; rfl, .cons h1 q1, q2⟩
theorem list_last {α : Type} {l : List α} (h : l ≠ []) : ∃ f q, l = f ++ [q] :=
  ⟨l.dropLast, l.getLast h, (List.dropLast_concat_getLast h).symm⟩
theorem ix_last (n : Nat) : ixN (n + 1) (-1) = some n := by
  unfold ixN
  rw [if_neg (by decide), if_pos (by omega)]
  congr 1
  omega
theorem set_last {α : Type} (l : List α) (a b : α) : (l ++ [a]).set l.length b = l ++ [b] := by
  rw [List.set_append_right _ _ (Nat.le_refl _)]
  simp
theorem upd_nn {o : HO} {u : Option HO} {b : Addr} (h : b ≠ a) (k : H b = u) : upd H a o b = u :=
  (upd_ne h).trans k
/-- what is not tracked then was not tracked before -/
def Old (H H' : Hp) : Prop := ∀ a, H' a = none → H a = none
theorem Old.refl : Old H H := fun _ h => h
theorem old_upd {H1 : Hp} {o : HO} (h : Old H H1) : Old H (upd H1 p o) := fun x e => by
  refine h x ?_
  by_cases z : x = p
  · rw [z, upd_same] at e
    cases e
  · rw [upd_ne z] at e
    exact e
theorem old_kp {H1 H2 : Hp} {ws : List Addr} (k : Kp ws H1 H2) (h : Old H H1) : Old H H2 :=
  fun x e => h x (k.free ⟨e⟩).e
theorem fr_of {H1 : Hp} {x : Addr} (h : Fr H1 x) (o : Old H H1) : Fr H x := ⟨o x h.e⟩
theorem small_sz {n : Nat} (h : n ≤ 1000000) : n < sizeLine := Nat.lt_of_le_of_lt h (by decide)
theorem sqT_new {o : HO} (h : SqT K H a xs) (hq : Fr H q) : SqT K (upd H q o) a xs :=
  (Kp.new (ws := []) hq).seqT h
theorem sqT_lst {o : HO} {ys : List V} (h : SqT K H a xs) (hq : H q = some (.lst ys)) :
    SqT K (upd H q o) a xs :=
  (Kp.mut (ws := [q]) hq (fun z => z) (List.mem_singleton.mpr rfl)).seqT h
theorem i_boN {b : Bool} {A B : Prop} (h1 : b = false → A) (h2 : b = true → B) :
    if (!b) = true then A else B := by
  cases b
  · exact iteT (h1 rfl)
  · exact iteF (h2 rfl)
theorem map_get {α β : Type} {l : List α} {f : α → β} {i : Nat} {d : β} (h : (l.map f)[i]? = some d) :
    ∃ p, l[i]? = some p ∧ d = f p := by
  rw [List.getElem?_map] at h
  cases e : l[i]? with
  | none => rw [e] at h; cases h
  | some p => rw [e] at h; cases h; exact ⟨p, rfl, rfl⟩
end
end G
namespace G
open PySem PySem.Spec PyProof.Rows L2
section
variable {K : PySem.W.Frag} {σ : L2.St} {H : Hp} {Q : VK} {n m : Int} {a p : Addr} {xs : List V} {v : V}
def rAbs : List V → Hp → VK → Prop := fun xs H Q => ∃ i, xs = [.int i] ∧ Q (.int (if i < 0 then -i else i)) H
def rMax2 : List V → Hp → VK → Prop := fun xs H Q => ∃ i j, xs = [.int i, .int j] ∧ Q (.int (if j > i then j else i)) H
def rMin2 : List V → Hp → VK → Prop := fun xs H Q => ∃ i j, xs = [.int i, .int j] ∧ Q (.int (if j < i then j else i)) H
def rDm : List V → Hp → VK → Prop := fun xs H Q => ∃ i j, xs = [.int i, .int j] ∧ CDivP i j ∧
  ∀ p, H p = none → Q (.ref p) (upd H p (.tup [.int (i / j), .int (i % j)]))
def rListOf (K : PySem.W.Frag) : List V → Hp → VK → Prop := fun xs H Q => ∃ p ys, xs = [.ref p] ∧
  (SqL K H p ys ∨ SqT K H p ys) ∧ ∀ l, H l = none → Q (.ref l) (upd H l (.lst ys))
def rPow : R2 := rI CPow fun i j => .int (i ^ j.toNat)
def uMod : R2 := rI (fun _ j => 0 < j) fun i j => .int (i % j)
def uDiv : R2 := rI CDivW fun i j => .int (i / j)
theorem c_abs {X : Cx} : CallR X (.builtin "abs") rAbs := call_abs
theorem c_max2 {X : Cx} (hc : X.calm = true) : CallR X (.builtin "max") rMax2 := call_max2 hc
theorem c_min2 {X : Cx} (hc : X.calm = true) : CallR X (.builtin "min") rMin2 := call_min2 hc
theorem c_dm {X : Cx} : CallR X (.builtin "divmod") rDm := call_divmodW
theorem c_list {X : Cx} : CallR X (.type "list") (rListOf X.K) := call_list_of
theorem o_pow {X : Cx} : OpR X (binaryOp .Pow) rPow := op_pow
theorem o_mod {X : Cx} : OpR X (binaryOp .Mod) uMod := op_mod
theorem o_div {X : Cx} : OpR X (binaryOp .FloorDiv) uDiv := op_fdivW
theorem i_abs (h : Q (.int (n.natAbs : Int)) H) : rAbs [.int n] H Q := by
  refine ⟨n, rfl, ?_⟩
  have e : (if n < 0 then -n else n) = (n.natAbs : Int) := by split <;> omega
  rw [e]
  exact h
instance red_i_abs  : Red (rAbs [.int n] H Q) (Q (.int (n.natAbs : Int)) H) := ⟨i_abs⟩
theorem i_max2 (h : Q (.int (max n m)) H) : rMax2 [.int n, .int m] H Q := by
  refine ⟨n, m, rfl, ?_⟩
  have e : (if m > n then m else n) = max n m := by
    rw [Int.max_def]
    split <;> split <;> omega
  rw [e]
  exact h
instance red_i_max2  : Red (rMax2 [.int n, .int m] H Q) (Q (.int (max n m)) H) := ⟨i_max2⟩
theorem i_min2 (h : Q (.int (min n m)) H) : rMin2 [.int n, .int m] H Q := by
  refine ⟨n, m, rfl, ?_⟩
  have e : (if m < n then m else n) = min n m := by
    rw [Int.min_def]
    split <;> split <;> omega
  rw [e]
  exact h
instance red_i_min2  : Red (rMin2 [.int n, .int m] H Q) (Q (.int (min n m)) H) := ⟨i_min2⟩
theorem i_mod (hc : 0 < m) (h : Q (.int (n % m)) H) : uMod (.int n) (.int m) H Q := ⟨n, m, rfl, rfl, hc, h⟩
theorem i_listL (hs : SqL K H p xs) (h : New H fun l => Q (.ref l) (upd H l (.lst xs))) :
    rListOf K [.ref p] H Q := ⟨p, xs, rfl, .inl hs, h⟩
theorem i_listT (hs : SqT K H p xs) (h : New H fun l => Q (.ref l) (upd H l (.lst xs))) :
    rListOf K [.ref p] H Q := ⟨p, xs, rfl, .inr hs, h⟩
theorem pow_go {k : Int} (e : (10 : Int) ^ m.toNat = k) (hm : 0 ≤ m ∧ m ≤ 1000000) (h : Q (.int k) H) :
    rPow (.int 10) (.int m) H Q :=
  ⟨10, m, rfl, rfl, ⟨hm.1, hm.2, by decide⟩, by
    show Q (.int (10 ^ m.toNat)) H
    rw [e]
    exact h⟩
theorem i_pw6 (h : Q (.int 1000000) H) : rPow (.int 10) (.int 6) H Q :=
  pow_go rfl (by decide) h
instance red_i_pw6  : Red (rPow (.int 10) (.int 6) H Q) (Q (.int 1000000) H) := ⟨i_pw6⟩
theorem i_pw16 (h : Q (.int 10000000000000000) H) : rPow (.int 10) (.int 16) H Q :=
  pow_go rfl (by decide) h
instance red_i_pw16  : Red (rPow (.int 10) (.int 16) H Q) (Q (.int 10000000000000000) H) := ⟨i_pw16⟩
theorem i_pw18 (h : Q (.int 1000000000000000000) H) :
    rPow (.int 10) (.int 18) H Q := pow_go rfl (by decide) h
instance red_i_pw18  : Red (rPow (.int 10) (.int 18) H Q) (Q (.int 1000000000000000000) H) := ⟨i_pw18⟩
theorem i_pw58 (h : Q (.int 10000000000000000000000000000000000000000000000000000000000) H) :
    rPow (.int 10) (.int 58) H Q := pow_go rfl (by decide) h
instance red_i_pw58  : Red (rPow (.int 10) (.int 58) H Q) (Q (.int 10000000000000000000000000000000000000000000000000000000000) H) := ⟨i_pw58⟩
theorem i_pw59 (h : Q (.int 100000000000000000000000000000000000000000000000000000000000) H) :
    rPow (.int 10) (.int 59) H Q := pow_go rfl (by decide) h
instance red_i_pw59  : Red (rPow (.int 10) (.int 59) H Q) (Q (.int 100000000000000000000000000000000000000000000000000000000000) H) := ⟨i_pw59⟩
theorem i_pw60 (h : Q (.int 1000000000000000000000000000000000000000000000000000000000000) H) :
    rPow (.int 10) (.int 60) H Q := pow_go rfl (by decide) h
instance red_i_pw60  : Red (rPow (.int 10) (.int 60) H Q) (Q (.int 1000000000000000000000000000000000000000000000000000000000000) H) := ⟨i_pw60⟩
theorem i_pw61 (h : Q (.int 10000000000000000000000000000000000000000000000000000000000000) H) :
    rPow (.int 10) (.int 61) H Q := pow_go rfl (by decide) h
instance red_i_pw61  : Red (rPow (.int 10) (.int 61) H Q) (Q (.int 10000000000000000000000000000000000000000000000000000000000000) H) := ⟨i_pw61⟩
theorem log_small {j : Int} (h0 : 0 < j) (h : j ≤ 10000000000000000000000000000000000000000000000000000000000000000000000) :
    j.natAbs.log2 < 9000 := by
  have h1 : j.natAbs < 2 ^ 9000 := by
    have h2 : j.natAbs ≤ 10 ^ 70 := by
      have e : ((10 ^ 70 : Nat) : Int) = 10000000000000000000000000000000000000000000000000000000000000000000000 := by rfl
      omega
    exact Nat.lt_of_le_of_lt h2 (by decide +kernel)
  exact (Nat.log2_lt (by omega)).mpr h1
theorem divp_small {i j : Int} (h0 : 0 < j) (h : j.natAbs.log2 < 9000) : CDivP i j := by
  refine ⟨h0, ?_⟩
  have nz : ¬ (j == 0) = true := by
    simpa using (show j ≠ 0 by omega)
  unfold Builtin.divisionGoesByPylong
  simp only [nz]
  have e : ¬ (j.natAbs.log2 / 30 + 1 > 300) := by omega
  first
    | (simp only [e, decide_false, Bool.false_and]; done)
    | (simp [e]; done)
    | (simp; omega)
theorem i_dm (h0 : 0 < m)
    (h1 : m ≤ 10000000000000000000000000000000000000000000000000000000000000000000000)
    (h : New H fun q => Q (.ref q) (upd H q (.tup [.int (n / m), .int (n % m)]))) :
    rDm [.int n, .int m] H Q := ⟨n, m, rfl, divp_small h0 (log_small h0 h1), h⟩
theorem i_div (h0 : 0 < m)
    (h1 : m ≤ 10000000000000000000000000000000000000000000000000000000000000000000000)
    (h : Q (.int (n / m)) H) : uDiv (.int n) (.int m) H Q := ⟨n, m, rfl, rfl, ⟨h0, log_small h0 h1⟩, h⟩
/-- a pot: two numbers from which draws come -/
def PotAt (H : Hp) (p : Addr) : Prop :=
  ∃ x y : Int, H p = some (.lst [.int x, .int y]) ∧ 0 ≤ x ∧ 0 ≤ y ∧ y < 8589934592
theorem PotAt.kp {ws : List Addr} {H1 : Hp} (h : PotAt H p) (k : Kp ws H H1) (hp : p ∉ ws) : PotAt H1 p := by
  obtain ⟨x, y, e, r⟩ := h
  exact ⟨x, y, k.at_ _ _ e hp, r⟩
end
end G
namespace G
open PySem PySem.Spec PyProof.Rows L2
def dty : PyData → String
  | .none => "NoneType"
  | .bool _ => "bool"
  | .int _ => "int"
  | .str _ => "str"
  | .list _ => "list"
  | .tuple _ => "tuple"
  | .dict _ => "dict"
section
variable {K : PySem.W.Frag} {σ : L2.St} {H : Hp} {Q : VK} {n m : Int} {a p : Addr} {xs : List V} {v : V} {d : PyData}
theorem dp_ty (h : Dp K H v d) : TyX K H v (.type (dty d)) := by
  cases h with
  | non => exact .base .non
  | bl b => exact .base (.bl b)
  | int i => exact .base (.int i)
  | str x => exact .base (.str x)
  | lst hs ha =>
    rcases hs with (h | ⟨o, h⟩) | ⟨o, its, k, e, c, r⟩
    · exact .base (.lst h)
    · exact .base (.frz h)
    · exact .kList e c
  | tup hs ha =>
    rcases hs with (h | ⟨o, h⟩) | ⟨o, its, k, e, c, r⟩
    · exact .base (.tup h)
    · exact .fTuple h
    · exact .kTuple e c
theorem i_isD {T : String} {b : Bool} (hd : Dp K H v d) (e : kitB (dty d) T = some b) (h : Q (.bl b) H) :
    rIsi K [v, .ty T] H Q := ⟨v, .ty T, _, _, b, rfl, .ty T, dp_ty hd, kit_ty e, h⟩
theorem i_revL {te : TE} (h : te σ H fun x H1 => ∃ a xs, x = .ref a ∧ SqL K H1 a xs ∧
    New H1 fun p => Q (.ref p) (upd H1 p (.lst xs.reverse))) : tRevL K te σ H Q := h
instance red_i_revL {te : TE} : Red (tRevL K te σ H Q) (te σ H fun x H1 => ∃ a xs, x = .ref a ∧ SqL K H1 a xs ∧
    New H1 fun p => Q (.ref p) (upd H1 p (.lst xs.reverse))) := ⟨i_revL⟩
theorem i_revd {P : Addr → List V → Prop} (hs : SqL K H a xs) (h : P a xs) :
    ∃ b ys, V.ref a = .ref b ∧ SqL K H b ys ∧ P b ys := ⟨a, xs, rfl, hs, h⟩
def rIns : V → List V → Hp → VK → Prop := fun x vs H Q => ∃ (l : Addr) (xs : List V) (i : Int) (y : V),
  x = .ref l ∧ vs = [.int i, y] ∧ H l = some (.lst xs) ∧ xs.length < sizeLine ∧ 0 ≤ i ∧ i < 2 ^ 63 ∧
  Q .non (upd H l (.lst (xs.take i.toNat ++ [y] ++ xs.drop i.toNat)))
theorem m_insert {X : Cx} : MtR X "list.insert" rIns := mt_insert
theorem i_ins0 {y : V} (hs : H p = some (.lst xs)) (hz : xs.length < sizeLine)
    (h : Q .non (upd H p (.lst (y :: xs)))) : rIns (.ref p) [.int 0, y] H Q :=
  ⟨p, xs, 0, y, rfl, rfl, hs, hz, by decide, by decide, h⟩
theorem i_call0 {sp : Sp} {E : XK} {tr : TA} (h : tr σ H fun vs H1 => sp vs H1 Q E) :
    tCall sp [] E tr σ H Q := by
  unfold tCall
  simp only [List.append_nil]
  exact h
instance red_i_call0 {sp : Sp} {E : XK} {tr : TA} : Red (tCall sp [] E tr σ H Q) (tr σ H fun vs H1 => sp vs H1 Q E) := ⟨i_call0⟩
def rAllB (K : PySem.W.Frag) : List V → Hp → VK → Prop := rAll K
theorem i_all {bs : List Bool} (hs : SqL K H p (bs.map V.bl)) (h : Q (.bl (bs.all id)) H) :
    rAll K [.ref p] H Q := ⟨p, bs, rfl, hs, h⟩
theorem i_any {bs : List Bool} (hs : SqL K H p (bs.map V.bl)) (h : Q (.bl (bs.any id)) H) :
    rAny K [.ref p] H Q := ⟨p, bs, rfl, hs, h⟩
theorem i_sum {ns : List Int} (hs : SqL K H p (ns.map V.int)) (h : Q (.int ns.sum) H) :
    rSum K [.ref p] H Q := ⟨p, ns, rfl, hs, h⟩
/-- an item by an index that is not written -/
theorem at_in {l : List V} {r : Int} (h0 : 0 ≤ r) (h1 : r < l.length) : ∃ v, atI l r = some v ∧ v ∈ l := by
  obtain ⟨k, rfl⟩ : ∃ k : Nat, r = k := ⟨r.toNat, by omega⟩
  have hl : k < l.length := by omega
  exact ⟨l[k], atI_nat (by simp), List.getElem_mem hl⟩
end
section
variable {K : PySem.W.Frag} {σ : L2.St} {H H1 : Hp} {Q : VK} {a p l : Addr} {xs : List V} {g : TG} {tt : TT} {te : TE} {vs : List Nat} {QB : Bool → Hp → Prop}
/-- a comprehension over x, a list -/
def LcL (K : PySem.W.Frag) (x : V) (g : TG) (tt : TT) (te : TE) (vs : List Nat) (σ : L2.St) (H1 : Hp) (Q : VK) : Prop :=
  ∃ a, x = .ref a ∧ (∃ xs, SqL K H1 a xs) ∧ ∀ D, H1 D = none →
    ∃ W : Nat → Nat → Hp → Prop, (∃ m, W 0 m (upd H1 D (.lst []))) ∧ ∀ i m H, W i m H →
      ((Itl K a).stop i H ∧ Q (.ref D) H) ∨ ((Itl K a).go i H ∧ ∃ Nx : Hp → Prop,
        (∀ H', Nx H' → ∃ m', m' < m ∧ W (i + 1) m' H') ∧
        ∀ x H', (Itl K a).yld i H x H' → g x (wipe σ vs) H' fun σ2 H2 => wipe σ2 vs = wipe σ vs ∧ tt σ2 H2 fun b H3 =>
          if b = true then te σ2 H3 fun y H4 => ∃ acc, H4 D = some (.lst acc) ∧ acc.length < sizeLine ∧
            Nx (upd H4 D (.lst (acc ++ [y]))) else Nx H3)
theorem i_lcL {te' : TE} (h : te' σ H fun x H1 => LcL K x g tt te vs σ H1 Q) :
    tLc (iList K te') g tt te vs σ H Q := h
instance red_i_lcL {te' : TE} : Red (tLc (iList K te') g tt te vs σ H Q) (te' σ H fun x H1 => LcL K x g tt te vs σ H1 Q) := ⟨i_lcL⟩
theorem i_elts (hs : SqL K H a xs) (Pv : Addr → Nat → Hp → Prop)
    (h0 : ∀ D, Fr H D → Pv D 0 (upd H D (.lst [])))
    (hl : ∀ D i H', Fr H D → i ≤ xs.length → Pv D i H' → SqL K H' a xs)
    (st : ∀ D i x H', Fr H D → xs[i]? = some x → Pv D i H' → g x (wipe σ vs) H' fun σ2 H2 =>
      wipe σ2 vs = wipe σ vs ∧ tt σ2 H2 fun b H3 => if b = true then te σ2 H3 fun y H4 =>
        ∃ acc, H4 D = some (.lst acc) ∧ acc.length < sizeLine ∧ Pv D (i + 1) (upd H4 D (.lst (acc ++ [y])))
        else Pv D (i + 1) H3)
    (hd : ∀ D H', Fr H D → Pv D xs.length H' → Q (.ref D) H') : LcL K (.ref a) g tt te vs σ H Q := by
  refine ⟨a, rfl, ⟨_, hs⟩, fun D hD => ?_⟩
  exact lc_list (K := K) (a := a) (xs := xs) (Pv D) (h0 D ⟨hD⟩) (fun i H' => hl D i H' ⟨hD⟩)
    (fun i x H' => st D i x H' ⟨hD⟩) (fun H' => hd D H' ⟨hD⟩)
def LcR (ws : List V) (g : TG) (tt : TT) (te : TE) (vs : List Nat) (σ : L2.St) (H1 : Hp) (Q : VK) : Prop :=
  ∃ j : Int, ws = [.int j] ∧ -(2 ^ 62) ≤ j ∧ j < 2 ^ 62 ∧ ∀ D, H1 D = none →
    ∃ W : Nat → Nat → Hp → Prop, (∃ m, W 0 m (upd H1 D (.lst []))) ∧ ∀ i m H, W i m H →
      ((Itr 0 j.toNat).stop i H ∧ Q (.ref D) H) ∨ ((Itr 0 j.toNat).go i H ∧ ∃ Nx : Hp → Prop,
        (∀ H', Nx H' → ∃ m', m' < m ∧ W (i + 1) m' H') ∧
        ∀ x H', (Itr 0 j.toNat).yld i H x H' → g x (wipe σ vs) H' fun σ2 H2 => wipe σ2 vs = wipe σ vs ∧ tt σ2 H2 fun b H3 =>
          if b = true then te σ2 H3 fun y H4 => ∃ acc, H4 D = some (.lst acc) ∧ acc.length < sizeLine ∧
            Nx (upd H4 D (.lst (acc ++ [y]))) else Nx H3)
theorem i_lcR {ta : TA} (h : ta σ H fun ws H1 => LcR ws g tt te vs σ H1 Q) :
    tLc (iRng1 ta) g tt te vs σ H Q := h
instance red_i_lcR {ta : TA} : Red (tLc (iRng1 ta) g tt te vs σ H Q) (ta σ H fun ws H1 => LcR ws g tt te vs σ H1 Q) := ⟨i_lcR⟩
theorem i_reps {n : Int} (b1 : 0 ≤ n) (b2 : n < 2 ^ 62) (Pv : Addr → Nat → Hp → Prop)
    (h0 : ∀ D, Fr H D → Pv D 0 (upd H D (.lst [])))
    (st : ∀ D (i : Nat) H', Fr H D → (i : Int) < n → Pv D i H' → g (.int i) (wipe σ vs) H' fun σ2 H2 =>
      wipe σ2 vs = wipe σ vs ∧ tt σ2 H2 fun b H3 => if b = true then te σ2 H3 fun y H4 =>
        ∃ acc, H4 D = some (.lst acc) ∧ acc.length < sizeLine ∧ Pv D (i + 1) (upd H4 D (.lst (acc ++ [y])))
        else Pv D (i + 1) H3)
    (hd : ∀ D H', Fr H D → Pv D n.toNat H' → Q (.ref D) H') : LcR [.int n] g tt te vs σ H Q := by
  refine ⟨n, rfl, by omega, b2, fun D hD => ?_⟩
  refine lc_range (lo := 0) (n := n.toNat) (Pv D) (h0 D ⟨hD⟩) (fun i H' hi q => ?_) (fun H' => hd D H' ⟨hD⟩)
  have e : V.int (0 + (i : Int)) = V.int i := by rw [Int.zero_add]
  rw [e]
  exact st D i H' ⟨hD⟩ (by omega) q
theorem i_wipe {σ2 : L2.St} {P : Prop} (e : wipe σ2 vs = wipe σ vs) (h : P) : wipe σ2 vs = wipe σ vs ∧ P := ⟨e, h⟩
theorem i_yes (h : QB true H) : tYes σ H QB := h
instance red_i_yes  : Red (tYes σ H QB) (QB true H) := ⟨i_yes⟩
theorem i_acc {D : Addr} {y : V} {P : Hp → Prop} {acc : List V} (h1 : H D = some (.lst acc)) (h2 : acc.length < sizeLine)
    (h : P (upd H D (.lst (acc ++ [y])))) : ∃ acc, H D = some (.lst acc) ∧ acc.length < sizeLine ∧ P (upd H D (.lst (acc ++ [y]))) :=
  ⟨acc, h1, h2, h⟩
end
end G
namespace G
open PySem PySem.Spec PyProof.Rows L2
section
variable {K : PySem.W.Frag} {H H1 : Hp} {a p l q : Addr} {ws : List Addr} {o u : HO} {ds : List PyData}
theorem kp_at (k : Kp ws H H1) (h : H a = some u) (n : a ∉ ws) : H1 a = some u := k.at_ a u h n
theorem not_nil {α : Type} {a : α} : a ∉ ([] : List α) := List.not_mem_nil
theorem not_one {a b : Addr} (h : a ≠ b) : a ∉ [b] := fun z => h (List.mem_singleton.mp z)
theorem not_two {a b c : Addr} (h : a ≠ b) (h2 : a ≠ c) : a ∉ [b, c] := fun z => by
  rcases List.mem_cons.mp z with z | z
  · exact h z
  · exact h2 (List.mem_singleton.mp z)
theorem pot_upd (h : PotAt H p) (n : p ≠ q) : PotAt (upd H q o) p := by
  obtain ⟨x, y, e, r⟩ := h
  exact ⟨x, y, by rw [upd_ne n]; exact e, r⟩
theorem PotAt.ne {x : Addr} (h : PotAt H p) (f : Fr H x) : p ≠ x := by
  have hx := f.e
  obtain ⟨_, _, e, _⟩ := h
  exact ne_of_none e hx
theorem pot_ne {x : Addr} (hx : Fr H x) (h : PotAt H p) : p ≠ x := h.ne hx
theorem LD.ne {x : Addr} (h : LD K H l ds) (f : Fr H x) : l ≠ x := by
  have hx := f.e
  obtain ⟨_, e, _⟩ := h
  exact ne_of_none e hx
theorem ld_ne {x : Addr} (f : Fr H x) (h : LD K H l ds) : l ≠ x := h.ne f
theorem ld_upd (h : LD K H l ds) (hi : imms ds = true) (hq : Fr H q) : LD K (upd H q o) l ds := by
  have k : Kp ([] : List Addr) H (upd H q o) := Kp.new hq
  exact h.kp k hi not_nil
theorem ld_upl {ys : List V} (h : LD K H l ds) (hi : imms ds = true) (hq : H q = some (.lst ys))
    (n : l ≠ q) : LD K (upd H q o) l ds := by
  have k : Kp [q] H (upd H q o) := Kp.mut hq (fun z => z) (List.mem_singleton.mpr rfl)
  exact h.kp k hi (not_one n)
theorem sqL_new {xs : List V} (h : SqL K H a xs) (f : Fr H q) : SqL K (upd H q o) a xs :=
  (Kp.new (ws := []) f).seqL not_nil h
theorem sqL_kp {xs : List V} (k : Kp ws H H1) (h : SqL K H a xs) (n : a ∉ ws) : SqL K H1 a xs := k.seqL n h
theorem at_zero {x : V} {xs : List V} : atI (x :: xs) 0 = some x := atI_nat (j := 0) rfl
theorem ix_zero (n : Nat) : ixN (n + 1) 0 = some 0 := by
  unfold ixN
  rw [if_pos (by decide), if_pos (by omega)]
  rfl
theorem dpa_rev : ∀ {ds : List PyData} {vs : List V}, DpAll K H vs ds → DpAll K H vs.reverse ds.reverse
  | [], _, h => by cases h; exact .nil
  | _ :: _, _, h => by
    cases h with
    | cons h1 h2 =>
      rw [List.reverse_cons, List.reverse_cons]
      exact dpa_app (dpa_rev h2) (dpa_one h1)
/-- something is put behind -/
theorem ld_app {y : V} {d : PyData} {vs : List V} (h : DpAll K H vs ds) (e : H l = some (.lst vs))
    (hi : imms ds = true) (hd : Dp K H y d) (hj : imm d = true) : LD K (upd H l (.lst (vs ++ [y]))) l (ds ++ [d]) := by
  have k : Kp [l] H (upd H l (.lst (vs ++ [y]))) := Kp.mut e (fun z => z) (List.mem_singleton.mpr rfl)
  exact ⟨_, upd_same, dpa_app (dpa_imm k _ _ hi h) (dpa_one (dp_imm k _ _ hj hd))⟩
end
end G

namespace G
open PySem PySem.Spec PyProof.Rows L2
/-! the same rules, the written part named -/
section
variable {X : Cx} {K : PySem.W.Frag} {e : Expr} {es : List Expr} {te : TE} {t : TGs} {f : Str} {pos : Pos} {tg : Expr}
theorem k_add (h : X.K = K) : OpR X (binaryOp .Add) (uAdd K) := h ▸ o_add
theorem k_eq (h : X.K = K) (hu : X.A.units + 64 < cLine) : OpR X (compareOp .Eq) (uEq K) := h ▸ o_eq hu
theorem k_ne (h : X.K = K) (hu : X.A.units + 64 < cLine) : OpR X (compareOp .NotEq) (uNe K) := h ▸ o_ne hu
theorem k_ix (h : X.K = K) : IxR X (uIx K) := h ▸ o_ix
theorem k_len (h : X.K = K) : CallR X (.builtin "len") (uLen K) := h ▸ c_len
theorem k_list (h : X.K = K) : CallR X (.type "list") (rListOf K) := h ▸ c_list
theorem k_repr (h : X.K = K) (hg : X.A.guards = some []) (hu : X.A.units + 64 < cLine) :
    CallR X (.builtin "repr") (rRepr K) := h ▸ call_repr hg hu
theorem k_all (h : X.K = K) (hc : X.calm = true) : CallR X (.builtin "all") (rAll K) := h ▸ cr_all hc
theorem k_any (h : X.K = K) (hc : X.calm = true) : CallR X (.builtin "any") (rAny K) := h ▸ cr_any hc
theorem k_sum (h : X.K = K) (hc : X.calm = true) : CallR X (.builtin "sum") (rSum K) := h ▸ cr_sum hc
theorem k_isi (h : X.K = K) : CallR X (.builtin "isinstance") (rIsi K) := h ▸ call_isi
theorem k_sl (h : X.K = K) : SlR X (rSlL K) := h ▸ sl_list
theorem k_slT (h : X.K = K) : SlR X (rSlT K) := h ▸ sl_tup
theorem k_in (h : X.K = K) : OpR X (compareOp .In) (rIn K false) := h ▸ op_in_seq
theorem k_nin (h : X.K = K) : OpR X (compareOp .NotIn) (rIn K true) := h ▸ op_notIn_seq
theorem k_fld (h : X.K = K) (he : PE X e te) (hb : attributeBase e f X.env (eval e X.env) = eval e X.env) :
    PE X (.Attribute e f pos) (tFld K te f) := h ▸ pe_fld he hb
theorem k_plist (h : X.K = K) (he : PE X e te) : PI X tg e (iList K te) := h ▸ pi_list he
theorem k_ptup (h : X.K = K) (he : PE X e te) : PI X tg e (iTup K te) := h ▸ pi_tup he
theorem k_rev {k : Nat} {p1 p2 p3 : Pos} (h : X.K = K) (he : PE X e te) :
    PE X (.Subscript e (.Slice none none (some (.UnaryOp .USub (.Constant (.int 1) k p1) p2)) p3) pos) (tRevL K te) :=
  h ▸ pe_revL he
theorem k_gtup {k : Nat} (n : Nat) (h : X.K = K) (hc : X.calm = true) (hp : PGs X es t)
    (hn : (assignEach es X.env).length = n := by rfl)
    (hst : (assignEach es X.env).findIdx? (·.1) = none := by rfl) : PG X (.Tuple es k pos) (gTup K n t) :=
  h ▸ pg_tup hc hp hn hst
end
end G
namespace G
open PySem PySem.Spec PyProof.Rows L2
/-! what is tracked; what is fixed -/
structure Tr (H : Hp) (a : Addr) : Prop where
  ex : ∃ o, H a = some o
structure Fx (H H1 : Hp) : Prop where
  fx : ∀ a u, H a = some u → Fix u → H1 a = some u
section
variable {K : PySem.W.Frag} {H H0 H1 : Hp} {Q : VK} {a b p l q : Addr} {ws : List Addr} {o u : HO} {ds : List PyData} {xs : List V} {n : Int} {v : V}
theorem tr_of (h : H a = some o) : Tr H a := ⟨o, h⟩
theorem tr_same : Tr (upd H p o) p := ⟨o, upd_same⟩
theorem tr_upd (h : Tr H a) : Tr (upd H p o) a := by
  by_cases e : a = p
  · rw [e]
    exact tr_same
  · obtain ⟨u, h⟩ := h.ex
    exact ⟨u, by rw [upd_ne e]; exact h⟩
theorem tr_kp (k : Kp ws H H1) (h : Tr H a) : Tr H1 a := by
  obtain ⟨u, h⟩ := h.ex
  obtain ⟨v, e⟩ := k.dom _ _ h
  exact ⟨v, e⟩
theorem tr_ld (h : LD K H a ds) : Tr H a := by
  obtain ⟨vs, e, _⟩ := h
  exact ⟨_, e⟩
theorem tr_pot (h : PotAt H a) : Tr H a := by
  obtain ⟨x, y, e, _⟩ := h
  exact ⟨_, e⟩
theorem fr_tr (h : Tr H a) (f : Fr H b) : a ≠ b := by
  obtain ⟨u, e⟩ := h.ex
  exact fr_ne e f
theorem fx_refl : Fx H H := ⟨fun _ _ h _ => h⟩
theorem fx_new (h : Fx H0 H) (f : Fr H p) : Fx H0 (upd H p o) := ⟨fun a u e z => by
  have e2 := h.fx a u e z
  rw [upd_ne (fr_ne e2 f)]
  exact e2⟩
theorem fx_mut (h : Fx H0 H) (f : H p = some u) (nf : ¬ Fix u) : Fx H0 (upd H p o) := ⟨fun a v e z => by
  have e2 := h.fx a v e z
  rw [upd_ne]
  · exact e2
  · intro c
    subst c
    rw [f] at e2
    cases e2
    exact nf z⟩
theorem fx_kp (k : Kp ws H H1) (h : Fx H0 H) : Fx H0 H1 := ⟨fun a u e z => k.fix a u (h.fx a u e z) z⟩
theorem Fx.seqT (k : Fx H H1) (h : SqT K H l xs) : SqT K H1 l xs := by
  rcases h with (h | ⟨o, h⟩) | h
  · exact .inl (.inl (k.fx _ _ h trivial))
  · exact .inl (.inr ⟨o, k.fx _ _ h trivial⟩)
  · exact .inr h
mutual
theorem Fx.dp (k : Fx H H1) : ∀ (d : PyData) (v : V), imm d = true → Dp K H v d → Dp K H1 v d
  | .none, _, _, h => by cases h; exact .non
  | .bool b, _, _, h => by cases h; exact .bl b
  | .int i, _, _, h => by cases h; exact .int i
  | .str x, _, _, h => by cases h; exact .str x
  | .tuple ds, _, hi, h => by
    cases h with
    | tup hs ha => exact .tup (k.seqT hs) (Fx.dpa k ds _ (by simpa only [imm] using hi) ha)
  | .list _, _, hi, _ => by simp only [imm] at hi; cases hi
  | .dict _, _, hi, _ => by simp only [imm] at hi; cases hi
theorem Fx.dpa (k : Fx H H1) : ∀ (ds : List PyData) (vs : List V), imms ds = true →
    DpAll K H vs ds → DpAll K H1 vs ds
  | [], _, _, h => by cases h; exact .nil
  | d :: ds, _, hi, h => by
    simp only [imms, Bool.and_eq_true] at hi
    cases h with
    | cons h1 h2 => exact .cons (Fx.dp k d _ hi.1 h1) (Fx.dpa k ds _ hi.2 h2)
end
/-- an item of an object -/
def ixO : HO → Int → V → Prop
  | .lst xs, n, v => atI xs n = some v
  | .tup xs, n, v => atI xs n = some v
  | _, _, _ => False
theorem i_ixO (h : H p = some o) (hv : ixO o n v) (q : Q v H) : uIx K (.ref p) (.int n) H Q := by
  cases o with
  | lst xs => exact i_ixL (SqL.of h) hv q
  | tup xs => exact i_ixT (SqT.of h) hv q
  | _ => exact hv.elim
theorem i_ixS (h0 : SqT K H0 p xs) (k : Fx H0 H) (hv : atI xs n = some v) (q : Q v H) :
    uIx K (.ref p) (.int n) H Q := i_ixT (k.seqT h0) hv q
def lenO : HO → Int → Prop
  | .lst xs, n => n = xs.length
  | .tup xs, n => n = xs.length
  | _, _ => False
theorem i_lenO (h : H p = some o) (hv : lenO o n) (q : Q (.int n) H) : uLen K [.ref p] H Q := by
  cases o with
  | lst xs =>
    have e : n = xs.length := hv
    subst e
    exact i_lenL (SqL.of h) q
  | tup xs =>
    have e : n = xs.length := hv
    subst e
    exact i_lenT (SqT.of h) q
  | _ => exact hv.elim
end
end G
namespace G
open PySem PySem.Spec PyProof.Rows L2
section
variable {K : PySem.W.Frag} {H : Hp} {Q : VK} {x y : V} {d : PyData}
theorem ne_same (hx : Dp K H x d) (hy : Dp K H y d) (sh : SeqAt.shaped d = true) (h : Q (.bl false) H) :
    uNe K x y H Q := by
  refine i_neD hx hy sh sh ?_
  rw [SeqAt.eqv_refl d (SeqAt.canLay_of_shaped sh)]
  exact h
theorem eq_same (hx : Dp K H x d) (hy : Dp K H y d) (sh : SeqAt.shaped d = true) (h : Q (.bl true) H) :
    uEq K x y H Q := by
  refine i_eqD hx hy sh sh ?_
  rw [SeqAt.eqv_refl d (SeqAt.canLay_of_shaped sh)]
  exact h
/-- a number that may be shown -/
def okI (i : Int) : Prop := i.natAbs.log2 < 1920
theorem okI_of {i : Int} (h0 : -100000000000000000000000000000000000000000000000000000000000000000000000 ≤ i)
    (h1 : i ≤ 100000000000000000000000000000000000000000000000000000000000000000000000) : okI i := by
  unfold okI
  have h2 : i.natAbs ≤ 10 ^ 71 := by
    have e : ((10 ^ 71 : Nat) : Int) = 100000000000000000000000000000000000000000000000000000000000000000000000 := by rfl
    omega
  by_cases z : i.natAbs = 0
  · rw [z]
    decide
  · exact (Nat.log2_lt z).mpr (Nat.lt_of_le_of_lt h2 (by decide +kernel))
theorem shws_pairs : ∀ l : List (Int × Int), (∀ q ∈ l, okI q.1 ∧ okI q.2) → shws (l.map d2) = true
  | [], _ => rfl
  | q :: l, h => by
    have a := h q List.mem_cons_self
    have b := shws_pairs l fun z hz => h z (List.mem_cons_of_mem _ hz)
    simp only [List.map_cons, shws, shw, b, Bool.and_true, Bool.and_eq_true, decide_eq_true_eq]
    exact a
theorem cws_pairs : ∀ l : List (Int × Int), cws (l.map d2) = 3868 * l.length
  | [] => rfl
  | q :: l => by
    simp only [List.map_cons, cws, cw, cws_pairs l, List.length_cons]
    omega
theorem depth_list (l : List (Int × Int)) : (PyData.list (l.map d2)).depth ≤ 60 := by
  simp only [PyData.depth]
  have q := depth_pairs l
  omega
theorem repr_pairs {l : List (Int × Int)} (hx : Dp K H x (.list (l.map d2))) (h : ∀ q ∈ l, okI q.1 ∧ okI q.2)
    (hl : l.length ≤ 4000) (q : Q (.str (PyData.list (l.map d2)).shown) H) : rRepr K [x] H Q := by
  refine i_repr hx ?_ (depth_list l) ?_ q
  · simp only [shw]
    exact shws_pairs l h
  · have e : cw (.list (l.map d2)) = 3868 * l.length + 2 := by simp only [cw, cws_pairs]
    rw [e]
    exact Nat.le_trans (show 3868 * l.length + 2 ≤ 15472002 by omega) (by decide)
end
end G
namespace G
open PySem PySem.Spec PyProof.Rows L2
/-! methods, new instances, keywords -/
section
variable {X : Cx} {k n : Nat} {f C : Addr} {fd : FuncData} {ps ks : List Str} {sp : Sp}
variable {dvs : List V} {ds : List Value} {E : XK} {x m : Str} {p pos apos : Pos} {e o : Expr}
variable {es : List Expr} {kws : List Keyword} {ta : TE} {t tk : TA} {pins : List (Addr × Obj)} {σ : L2.St} {H : Hp}
variable {s s' : Shared} {Q : VK} {g : List Value → List Value → List Value} {gV : List V → List V → List V}
/-- defaults of which only the values are known -/
def BindsD (K : PySem.W.Frag) (fd : FuncData) (ps : List Str) (dvs : List V) : Prop :=
  ∃ ds, Vals dvs ds ∧ Binds K fd ps ds
def KBnD (K : PySem.W.Frag) (fd : FuncData) (ps : List Str) (n : Nat) (ks : List Str)
    (gV : List V → List V → List V) : Prop := ∃ g, KBn K fd ps n ks g gV
theorem BindsD.plain {K : PySem.W.Frag} (h : Binds K fd ps []) : BindsD K fd ps [] := ⟨[], .nil, h⟩
theorem d1 (F : Fg X k f fd ps sp) (z : RoomG k X.A) (hg : Gl X x) (hm : X.mg x = some (.ref f))
    (hk : PySem.W.keepIn X.K (.ref f) = true) (hb : BindsD X.K fd ps dvs)
    (hx : Ps X E) (ha : PA X (e :: es) t)
    (hdb : (x == ("__debug__" : Str)) = false := by decide)
    (he : starEach (e :: es) X.env = (false, eval e X.env) :: starEach es X.env := by rfl)
    (hpl : (backTo pos (starEach es X.env)).any (·.1) = false := by rfl) :
    PE X (.Call (.Name x p) (e :: es) [] pos) (tCall sp dvs E t) := by
  obtain ⟨ds, hd, hb⟩ := hb
  exact c1 F z hg hm hk hb hd hx ha hdb he hpl
theorem dm {pl : Sem Bool} (c : Cls X.K C) (hm : Meth X.K C m f)
    (F : Fg X k f fd ps sp) (z : RoomG k X.A) (hb : BindsD X.K fd ps dvs)
    (hx : Ps X E) (he : PE X o ta) (ha : PA X (e :: es) t)
    (hst : starEach (e :: es) X.env = (false, eval e X.env) :: starEach es X.env := by rfl)
    (hpl : (backTo pos (starEach es X.env)).any (·.1) = false := by rfl)
    (ht : eval (.Call (.Attribute o m apos) (e :: es) [] pos) X.env = (do
      let y ← eval o X.env
      standAt apos.atName
      let (g, a) ← holding [y] (getMethod y m pl)
      callWith pos g a (backTo pos (starEach (e :: es) X.env))
        (backToKw pos (keywordEach [] X.env))) := by rfl) :
    PE X (.Call (.Attribute o m apos) (e :: es) [] pos) (tMeth C m sp dvs E ta t) := by
  obtain ⟨ds, hd, hb⟩ := hb
  exact cm he c hm F z hb hd hx ha hst hpl ht
theorem dm0 {pl : Sem Bool} (c : Cls X.K C) (hm : Meth X.K C m f)
    (F : Fg X k f fd ps sp) (z : RoomG k X.A) (hb : BindsD X.K fd ps dvs)
    (hx : Ps X E) (he : PE X o ta)
    (ht : eval (.Call (.Attribute o m apos) [] [] pos) X.env = (do
      let y ← eval o X.env
      standAt apos.atName
      let (g, a) ← holding [y] (getMethod y m pl)
      callWith pos g a (backTo pos (starEach [] X.env))
        (backToKw pos (keywordEach [] X.env))) := by rfl) :
    PE X (.Call (.Attribute o m apos) [] [] pos) (tMeth C m sp dvs E ta tNil) := by
  obtain ⟨ds, hd, hb⟩ := hb
  exact cm0 he c hm F z hb hd hx ht
/-- a call of f with positional values and keywords -/
theorem runK {us ws : List Value} {vs zs : List V} (F : Fg X k f fd ps sp) (z : RoomG k X.A)
    (hb : KBn X.K fd ps n ks g gV) (hx : Ps X E) (I : Inv X pins σ H s) (rv : Vals vs us) (rz : Vals zs ws)
    (l1 : vs.length = n) (l2 : zs.length = ks.length) (h : sp (gV vs zs) H Q E) :
    wpAny (model X.prog X.w) X.A (call (.ref f) us (ks.zip ws)) (EP X pins σ Q) X.xe s := by
  have b := hb.to s us ws I.kIn (rv.length.symm.trans l1) (rz.length.symm.trans l2)
  refine wpAny_call (codeAny_mono (runG F z b hx I (hb.rel rv rz) h) ?_)
  intro r s' q
  match r, q with
  | .error e, q => exact q
  | .ok (.ret u), q => exact q
  | .ok .next, q => exact q
  | .ok .brk, q => exact q
  | .ok .cont, q => exact q
def tKw (n m : Nat) (sp : Sp) (gV : List V → List V → List V) (E : XK) (t tk : TA) : TE := fun σ H Q =>
  t σ H fun vs H1 => tk σ H1 fun zs H2 => vs.length = n ∧ zs.length = m ∧ sp (gV vs zs) H2 Q E
def tMw (C : Addr) (nm : Str) (n m : Nat) (sp : Sp) (gV : List V → List V → List V) (E : XK) (ta : TE) (t tk : TA) : TE :=
  fun σ H Q => ta σ H fun x H1 => ∃ a dx fs, x = .ref a ∧ H1 a = some (.ins C dx fs) ∧ fs.lookup nm = none ∧
    t σ H1 fun vs H2 => tk σ H2 fun zs H3 => vs.length = n ∧ zs.length = m ∧ sp (gV (x :: vs) zs) H3 Q E
theorem kc (F : Fg X k f fd ps sp) (z : RoomG k X.A) (hg : Gl X x) (hm : X.mg x = some (.ref f))
    (hk : PySem.W.keepIn X.K (.ref f) = true) (hb : KBnD X.K fd ps n ks gV) (hx : Ps X E)
    (ha : PA X (e :: es) t) (hkw : PK X kws tk)
    (hall : (backToKw pos (keywordEach kws X.env)).all (·.1.isSome) = true := by rfl)
    (hks : (backToKw pos (keywordEach kws X.env)).filterMap (·.1) = ks := by rfl)
    (hdb : (x == ("__debug__" : Str)) = false := by decide)
    (he : starEach (e :: es) X.env = (false, eval e X.env) :: starEach es X.env := by rfl)
    (hpl : ((backTo pos (starEach (e :: es) X.env)).any (·.1) ||
      (backToKw pos (keywordEach kws X.env)).any (·.1.isNone)) = false := by rfl) :
    PE X (.Call (.Name x p) (e :: es) kws pos) (tKw n ks.length sp gV E t tk) := by
  obtain ⟨g, hb⟩ := hb
  constructor
  intro pins s σ H Q I h
  refine wpAny_Call_Name_kw (ld_glob I hg hm ?_ hdb)
  refine PySem.W.callWith_KW (h₀ := X.base) I.ok.mod.kin hk hall ?_ hpl he
  refine thn (ha.run pos pins s σ H _ I h) ?_
  intro us s1 y
  obtain ⟨vs, H1, I1, r, q⟩ := y
  refine thn (hkw.run pos pins s1 σ H1 _ I1 q) ?_
  intro ws s2 y
  obtain ⟨zs, H2, I2, rz, l1, l2, q2⟩ := y
  refine ⟨I2.kIn, ?_⟩
  rw [hks]
  exact runK F z hb hx I2 r rz l1 l2 q2
theorem kc0 (F : Fg X k f fd ps sp) (z : RoomG k X.A) (hg : Gl X x) (hm : X.mg x = some (.ref f))
    (hk : PySem.W.keepIn X.K (.ref f) = true) (hb : KBnD X.K fd ps 0 ks gV) (hx : Ps X E)
    (hkw : PK X kws tk)
    (hall : (backToKw pos (keywordEach kws X.env)).all (·.1.isSome) = true := by rfl)
    (hks : (backToKw pos (keywordEach kws X.env)).filterMap (·.1) = ks := by rfl)
    (hdb : (x == ("__debug__" : Str)) = false := by decide)
    (hpl : ((backTo pos (starEach [] X.env)).any (·.1) ||
      (backToKw pos (keywordEach kws X.env)).any (·.1.isNone)) = false := by rfl) :
    PE X (.Call (.Name x p) [] kws pos) (tKw 0 ks.length sp gV E tNil tk) := by
  obtain ⟨g, hb⟩ := hb
  constructor
  intro pins s σ H Q I h
  refine wpAny_Call_Name_kw (ld_glob I hg hm ?_ hdb)
  refine PySem.W.callWith_KW0 (h₀ := X.base) I.ok.mod.kin hk hall ?_ hpl
  refine thn (hkw.run pos pins s σ H _ I h) ?_
  intro ws s2 y
  obtain ⟨zs, H2, I2, rz, l1, l2, q2⟩ := y
  refine ⟨I2.kIn, ?_⟩
  rw [hks]
  exact runK (us := []) (vs := []) F z hb hx I2 .nil rz l1 l2 q2
theorem km {pl : Sem Bool} (c : Cls X.K C) (hm : Meth X.K C m f)
    (F : Fg X k f fd ps sp) (z : RoomG k X.A) (hb : KBnD X.K fd ps (n + 1) ks gV)
    (hx : Ps X E) (he : PE X o ta) (ha : PA X (e :: es) t) (hkw : PK X kws tk)
    (hall : (backToKw pos (keywordEach kws X.env)).all (·.1.isSome) = true := by rfl)
    (hks : (backToKw pos (keywordEach kws X.env)).filterMap (·.1) = ks := by rfl)
    (hst : starEach (e :: es) X.env = (false, eval e X.env) :: starEach es X.env := by rfl)
    (hpl : ((backTo pos (starEach (e :: es) X.env)).any (·.1) ||
      (backToKw pos (keywordEach kws X.env)).any (·.1.isNone)) = false := by rfl)
    (ht : eval (.Call (.Attribute o m apos) (e :: es) kws pos) X.env = (do
      let y ← eval o X.env
      standAt apos.atName
      let (g, a) ← holding [y] (getMethod y m pl)
      callWith pos g a (backTo pos (starEach (e :: es) X.env))
        (backToKw pos (keywordEach kws X.env))) := by rfl) :
    PE X (.Call (.Attribute o m apos) (e :: es) kws pos) (tMw C m n ks.length sp gV E ta t tk) := by
  obtain ⟨g, hb⟩ := hb
  constructor
  intro pins s σ H Q I h
  refine PySem.W.methodCall_KW (pl := pl) (thn (he.run pins s σ H _ I h) ?_) ht
  intro u s1 y
  obtain ⟨v, H1, I1, rx, a, dx, fs, ex, ea, l, q⟩ := y
  subst ex
  obtain rfl : u = Value.ref a := rx
  refine getmeth_ok I1 ea c hm l ?_
  refine PySem.W.callWith_KW (first := [.ref a]) (h₀ := X.base) I.ok.mod.kin hm.kp hall ?_ hpl hst
  refine thn (ha.run pos pins s1 σ H1 _ I1 q) ?_
  intro us s2 y
  obtain ⟨vs, H2, I2, r, q2⟩ := y
  refine thn (hkw.run pos pins s2 σ H2 _ I2 q2) ?_
  intro ws s3 y
  obtain ⟨zs, H3, I3, rz, l1, l2, q3⟩ := y
  refine ⟨I3.kIn, ?_⟩
  rw [hks]
  exact runK (us := .ref a :: us) (vs := .ref a :: vs) F z hb hx I3 (.cons rfl r) rz (by rw [List.length_cons, l1]) l2 q3
theorem km0 {pl : Sem Bool} (c : Cls X.K C) (hm : Meth X.K C m f)
    (F : Fg X k f fd ps sp) (z : RoomG k X.A) (hb : KBnD X.K fd ps 1 ks gV)
    (hx : Ps X E) (he : PE X o ta) (hkw : PK X kws tk)
    (hall : (backToKw pos (keywordEach kws X.env)).all (·.1.isSome) = true := by rfl)
    (hks : (backToKw pos (keywordEach kws X.env)).filterMap (·.1) = ks := by rfl)
    (hpl : ((backTo pos (starEach [] X.env)).any (·.1) ||
      (backToKw pos (keywordEach kws X.env)).any (·.1.isNone)) = false := by rfl)
    (ht : eval (.Call (.Attribute o m apos) [] kws pos) X.env = (do
      let y ← eval o X.env
      standAt apos.atName
      let (g, a) ← holding [y] (getMethod y m pl)
      callWith pos g a (backTo pos (starEach [] X.env))
        (backToKw pos (keywordEach kws X.env))) := by rfl) :
    PE X (.Call (.Attribute o m apos) [] kws pos) (tMw C m 0 ks.length sp gV E ta tNil tk) := by
  obtain ⟨g, hb⟩ := hb
  constructor
  intro pins s σ H Q I h
  refine PySem.W.methodCall_KW (pl := pl) (thn (he.run pins s σ H _ I h) ?_) ht
  intro u s1 y
  obtain ⟨v, H1, I1, rx, a, dx, fs, ex, ea, l, q⟩ := y
  subst ex
  obtain rfl : u = Value.ref a := rx
  refine getmeth_ok I1 ea c hm l ?_
  refine PySem.W.callWith_KW0 (first := [.ref a]) (h₀ := X.base) I.ok.mod.kin hm.kp hall ?_ hpl
  refine thn (hkw.run pos pins s1 σ H1 _ I1 q) ?_
  intro ws s3 y
  obtain ⟨zs, H3, I3, rz, l1, l2, q3⟩ := y
  refine ⟨I3.kIn, ?_⟩
  rw [hks]
  exact runK (us := [.ref a]) (vs := [.ref a]) F z hb hx I3 (.cons rfl .nil) rz (by rw [List.length_singleton]) l2 q3
/-- a new instance, then its __init__ -/
def Made (C : Addr) (sp : Sp) (E : XK) (H : Hp) (Q : VK) (vs : Addr → List V) : Prop :=
  ∀ x dx, H x = none → H dx = none → dx ≠ x →
    sp (vs x) (upd (upd H dx (.own x)) x (.ins C dx [])) (fun v H2 => v = .non ∧ Q (.ref x) H2) E
theorem runM {vs : Addr → List V} (M : Mk X.K C f) (F : Fg X k f fd ps sp)
    (z : RoomG (k + 1) X.A) (hx : Ps X E) (I : Inv X pins σ H s) {us0 : List Value} {kw : List (Str × Value)}
    {us : Addr → List Value} (hb : ∀ (s : Shared) (x : Addr), X.K.In s.heap → BindsTo s fd ⟨.ref x :: us0, kw⟩ (ps.zip (us x)))
    (h : Made C sp E H Q vs)
    (rv : ∀ x, Vals (vs x) (us x)) :
    wpAny (model X.prog X.w) X.A (call (.ref C) us0 kw) (EP X pins σ Q) X.xe s := by
  have hq := h (s.heap.objs.size + 1) s.heap.objs.size (I.hok.fresh (Nat.le_succ _)) (I.hok.fresh (Nat.le_refl _))
    (Nat.ne_of_lt (Nat.lt_succ_self _))
  have I2 := Inv.made (C := C) I
  refine wpAny_call (make_map (f := f) I.kIn M.makes M.init (beq_iff_eq.mp M.fn) (codeAny_mono
    (F.run _ X.stack _ _ ⟨.ref (s.heap.objs.size + 1) :: us0, kw⟩ _ _ _ E (z.make C us0 kw)
      (I2.env0.make C us0 kw) (hb _ _ I2.kIn) (rv _) hq) ?_))
  intro r s' q
  match r, q with
  | .error e, q => exact hx pins σ _ _ e s' I2 q
  | .ok (.ret u), q =>
    obtain ⟨v, H', I3, rv, ev, q3⟩ := I2.after q
    subst ev
    exact ⟨rv, ⟨V.ref (s.heap.objs.size + 1), H', I3, rfl, q3⟩⟩
  | .ok .next, q => exact False.elim q
  | .ok .brk, q => exact False.elim q
  | .ok .cont, q => exact False.elim q
def tMk (C : Addr) (sp : Sp) (dvs : List V) (E : XK) (t : TA) : TE := fun σ H Q => t σ H fun vs H1 =>
  Made C sp E H1 Q fun x => .ref x :: (vs ++ dvs)
def tMkK (C : Addr) (n m : Nat) (sp : Sp) (gV : List V → List V → List V) (E : XK) (t tk : TA) : TE := fun σ H Q =>
  t σ H fun vs H1 => tk σ H1 fun zs H2 => vs.length = n ∧ zs.length = m ∧ Made C sp E H2 Q fun x => gV (.ref x :: vs) zs
theorem made_len {vs : Addr → List V} (F : Fg X k f fd ps sp) (I : Inv X pins σ H s) (h : Made C sp E H Q vs) :
    ∃ x, (vs x).length = ps.length := by
  have hq := h (s.heap.objs.size + 1) s.heap.objs.size (I.hok.fresh (Nat.le_succ _)) (I.hok.fresh (Nat.le_refl _))
    (Nat.ne_of_lt (Nat.lt_succ_self _))
  exact ⟨_, F.len _ _ _ _ hq⟩
theorem mk1 (M : Mk X.K C f) (F : Fg X k f fd ps sp) (z : RoomG (k + 1) X.A) (hg : Gl X x)
    (hm : X.mg x = some (.ref C)) (hb : BindsD X.K fd ps dvs) (hx : Ps X E) (ha : PA X (e :: es) t)
    (hdb : (x == ("__debug__" : Str)) = false := by decide)
    (he : starEach (e :: es) X.env = (false, eval e X.env) :: starEach es X.env := by rfl)
    (hpl : (backTo pos (starEach es X.env)).any (·.1) = false := by rfl) :
    PE X (.Call (.Name x p) (e :: es) [] pos) (tMk C sp dvs E t) := by
  obtain ⟨ds, hd, hb⟩ := hb
  constructor
  intro pins s σ H Q I h
  refine wpAny_Call_Name_kw (ld_glob I hg hm ?_ hdb)
  refine PySem.W.callWith_K (h₀ := X.base) I.ok.mod.kin M.kp ?_ he hpl
  refine thn (ha.run pos pins s σ H _ I h) ?_
  intro us s1 y
  obtain ⟨vs, H1, I1, r, q⟩ := y
  refine ⟨I1.kIn, ?_⟩
  obtain ⟨x0, hl⟩ := made_len F I1 q
  refine runM (us := fun x => .ref x :: (us ++ ds)) M F z hx I1 ?_ q (fun x => .cons rfl (r.append hd))
  intro s2 x2 kin
  refine hb s2 (.ref x2 :: us) kin ?_
  rw [← hl]
  have e1 := r.length
  have e2 := hd.length
  simp only [List.length_cons, List.length_append, List.cons_append] at *
  omega
theorem mk0 (M : Mk X.K C f) (F : Fg X k f fd ps sp) (z : RoomG (k + 1) X.A) (hg : Gl X x)
    (hm : X.mg x = some (.ref C)) (hb : BindsD X.K fd ps dvs) (hx : Ps X E)
    (hdb : (x == ("__debug__" : Str)) = false := by decide) :
    PE X (.Call (.Name x p) [] [] pos) (tMk C sp dvs E tNil) := by
  obtain ⟨ds, hd, hb⟩ := hb
  constructor
  intro pins s σ H Q I h
  refine wpAny_Call_Name_kw (ld_glob I hg hm ?_ hdb)
  refine PySem.W.callWith_K0 I.kIn M.kp ?_
  obtain ⟨x0, hl⟩ := made_len F I h
  refine runM (us0 := []) (us := fun x => .ref x :: ([] ++ ds)) M F z hx I ?_ h (fun x => .cons rfl (Vals.append .nil hd))
  intro s2 x2 kin
  refine hb s2 [.ref x2] kin ?_
  rw [← hl]
  have e2 := hd.length
  simp only [List.length_cons, List.length_append, List.cons_append, List.length_nil, List.nil_append] at *
  omega
theorem mkK (M : Mk X.K C f) (F : Fg X k f fd ps sp) (z : RoomG (k + 1) X.A) (hg : Gl X x)
    (hm : X.mg x = some (.ref C)) (hb : KBnD X.K fd ps (n + 1) ks gV) (hx : Ps X E) (ha : PA X (e :: es) t)
    (hkw : PK X kws tk)
    (hall : (backToKw pos (keywordEach kws X.env)).all (·.1.isSome) = true := by rfl)
    (hks : (backToKw pos (keywordEach kws X.env)).filterMap (·.1) = ks := by rfl)
    (hdb : (x == ("__debug__" : Str)) = false := by decide)
    (he : starEach (e :: es) X.env = (false, eval e X.env) :: starEach es X.env := by rfl)
    (hpl : ((backTo pos (starEach (e :: es) X.env)).any (·.1) ||
      (backToKw pos (keywordEach kws X.env)).any (·.1.isNone)) = false := by rfl) :
    PE X (.Call (.Name x p) (e :: es) kws pos) (tMkK C n ks.length sp gV E t tk) := by
  obtain ⟨g, hb⟩ := hb
  constructor
  intro pins s σ H Q I h
  refine wpAny_Call_Name_kw (ld_glob I hg hm ?_ hdb)
  refine PySem.W.callWith_KW (h₀ := X.base) I.ok.mod.kin M.kp hall ?_ hpl he
  refine thn (ha.run pos pins s σ H _ I h) ?_
  intro us s1 y
  obtain ⟨vs, H1, I1, r, q⟩ := y
  refine thn (hkw.run pos pins s1 σ H1 _ I1 q) ?_
  intro ws s2 y
  obtain ⟨zs, H2, I2, rz, l1, l2, q2⟩ := y
  refine ⟨I2.kIn, ?_⟩
  rw [hks]
  refine runM (us := fun x => g (.ref x :: us) ws) M F z hx I2 ?_ q2 (fun x => hb.rel (.cons rfl r) rz)
  intro s3 x3 kin
  refine hb.to s3 (.ref x3 :: us) ws kin ?_ (rz.length.symm.trans l2)
  rw [List.length_cons, ← r.length, l1]
theorem mkK0 (M : Mk X.K C f) (F : Fg X k f fd ps sp) (z : RoomG (k + 1) X.A) (hg : Gl X x)
    (hm : X.mg x = some (.ref C)) (hb : KBnD X.K fd ps 1 ks gV) (hx : Ps X E)
    (hkw : PK X kws tk)
    (hall : (backToKw pos (keywordEach kws X.env)).all (·.1.isSome) = true := by rfl)
    (hks : (backToKw pos (keywordEach kws X.env)).filterMap (·.1) = ks := by rfl)
    (hdb : (x == ("__debug__" : Str)) = false := by decide)
    (hpl : ((backTo pos (starEach [] X.env)).any (·.1) ||
      (backToKw pos (keywordEach kws X.env)).any (·.1.isNone)) = false := by rfl) :
    PE X (.Call (.Name x p) [] kws pos) (tMkK C 0 ks.length sp gV E tNil tk) := by
  obtain ⟨g, hb⟩ := hb
  constructor
  intro pins s σ H Q I h
  refine wpAny_Call_Name_kw (ld_glob I hg hm ?_ hdb)
  refine PySem.W.callWith_KW0 (h₀ := X.base) I.ok.mod.kin M.kp hall ?_ hpl
  refine thn (hkw.run pos pins s σ H _ I h) ?_
  intro ws s2 y
  obtain ⟨zs, H2, I2, rz, l1, l2, q2⟩ := y
  refine ⟨I2.kIn, ?_⟩
  rw [hks]
  refine runM (us0 := []) (us := fun x => g [.ref x] ws) M F z hx I2 ?_ q2 (fun x => hb.rel (.cons rfl .nil) rz)
  intro s3 x3 kin
  exact hb.to s3 [.ref x3] ws kin rfl (rz.length.symm.trans l2)
end
section
variable {P : Program} {w : World} {K : PySem.W.Frag} {mg : Str → Option Value} {base : Heap}
theorem okD {x qual : Str} {params : Arguments} {body : List Stmt} {scope : Scope} {dvs : List V} {kws : List (Str × V)}
    {f : Addr} {fd : FuncData} {N ps : List Str} {k : Nat} {sp : Sp}
    (F : FunD K x qual params body scope dvs kws f fd) (S : FnScope N ps scope)
    (len : ∀ vs H Q E, sp vs H Q E → vs.length = ps.length)
    (hb : ∀ (cdv : Value) (A : Around) (outer : List Env) (s : Shared) (H : Hp) (vs : List V)
      (Q : VK) (E : XK), RoomG k (A.deeper (envOfC qual scope s.heap.objs.size f cdv)) →
      sp vs H Q E →
      ∃ t, PSs (cxOf (L2.CX P w) P w K mg base N qual scope f cdv A outer s H E) body t ∧
        t { nx := fun _ H' => Q .non H', rt := Q } (start N vs) H) :
    FnG P w K mg base (k + 1) f fd ps sp := by
  obtain ⟨oc, od, dV, kV, doc, pm, an, cdv, ct, osl, rfl, lk, hcd, _, _⟩ := F.ex
  exact FnG.body lk hcd S len fun A outer s H vs Q E z h => hb cdv A outer s H vs Q E z h
end
/-! readings of these -/
section
variable {K : PySem.W.Frag} {σ : L2.St} {H : Hp} {Q : VK} {D : Ends} {a C dx p : Addr} {fs : List (Str × V)} {f m : Str} {v : V}
variable {ta tv : TE} {t tk : TA} {sp : Sp} {E : XK} {vs zs : List V} {gV : List V → List V → List V} {n k : Nat}
def MethR (C : Addr) (m : Str) (sp : Sp) (E : XK) (t : TA) (σ : L2.St) (x : V) (H1 : Hp) (Q : VK) : Prop :=
  ∃ a dx fs, x = .ref a ∧ H1 a = some (.ins C dx fs) ∧ fs.lookup m = none ∧ t σ H1 fun vs H2 => sp (x :: vs) H2 Q E
theorem i_meth (h : ta σ H fun x H1 => MethR C m sp E t σ x H1 Q) : tMeth C m sp [] E ta t σ H Q := by
  unfold tMeth
  simp only [List.append_nil]
  exact h
instance red_i_meth  : Red (tMeth C m sp [] E ta t σ H Q) (ta σ H fun x H1 => MethR C m sp E t σ x H1 Q) := ⟨i_meth⟩
theorem i_methR (ho : H a = some (.ins C dx fs)) (hl : fs.lookup m = none)
    (h : t σ H fun vs H2 => sp (.ref a :: vs) H2 Q E) : MethR C m sp E t σ (.ref a) H Q := ⟨a, dx, fs, rfl, ho, hl, h⟩
def MethW (C : Addr) (nm : Str) (n m : Nat) (sp : Sp) (gV : List V → List V → List V) (E : XK) (t tk : TA) (σ : L2.St) (x : V)
    (H1 : Hp) (Q : VK) : Prop := ∃ a dx fs, x = .ref a ∧ H1 a = some (.ins C dx fs) ∧ fs.lookup nm = none ∧
    t σ H1 fun vs H2 => tk σ H2 fun zs H3 => vs.length = n ∧ zs.length = m ∧ sp (gV (x :: vs) zs) H3 Q E
theorem i_methW (h : ta σ H fun x H1 => MethW C m n k sp gV E t tk σ x H1 Q) : tMw C m n k sp gV E ta t tk σ H Q := h
instance red_i_methW  : Red (tMw C m n k sp gV E ta t tk σ H Q) (ta σ H fun x H1 => MethW C m n k sp gV E t tk σ x H1 Q) := ⟨i_methW⟩
theorem i_methWR (ho : H a = some (.ins C dx fs)) (hl : fs.lookup m = none)
    (h : t σ H fun vs H2 => tk σ H2 fun zs H3 => vs.length = n ∧ zs.length = k ∧ sp (gV (.ref a :: vs) zs) H3 Q E) :
    MethW C m n k sp gV E t tk σ (.ref a) H Q := ⟨a, dx, fs, rfl, ho, hl, h⟩
theorem i_lens {P : Prop} (h1 : vs.length = n) (h2 : zs.length = k) (h : P) : vs.length = n ∧ zs.length = k ∧ P := ⟨h1, h2, h⟩
theorem i_kw (h : t σ H fun vs H1 => tk σ H1 fun zs H2 => vs.length = n ∧ zs.length = k ∧ sp (gV vs zs) H2 Q E) :
    tKw n k sp gV E t tk σ H Q := h
instance red_i_kw  : Red (tKw n k sp gV E t tk σ H Q) (t σ H fun vs H1 => tk σ H1 fun zs H2 => vs.length = n ∧ zs.length = k ∧ sp (gV vs zs) H2 Q E) := ⟨i_kw⟩
theorem i_mk (h : t σ H fun vs H1 => Made C sp E H1 Q fun x => .ref x :: vs) : tMk C sp [] E t σ H Q := by
  unfold tMk
  simp only [List.append_nil]
  exact h
instance red_i_mk  : Red (tMk C sp [] E t σ H Q) (t σ H fun vs H1 => Made C sp E H1 Q fun x => .ref x :: vs) := ⟨i_mk⟩
theorem i_mkD {dvs : List V} (h : t σ H fun vs H1 => Made C sp E H1 Q fun x => .ref x :: (vs ++ dvs)) : tMk C sp dvs E t σ H Q := h
instance (priority := 900) red_i_mkD {dvs : List V} : Red (tMk C sp dvs E t σ H Q) (t σ H fun vs H1 => Made C sp E H1 Q fun x => .ref x :: (vs ++ dvs)) := ⟨i_mkD⟩
theorem i_mkK (h : t σ H fun vs H1 => tk σ H1 fun zs H2 => vs.length = n ∧ zs.length = k ∧
    Made C sp E H2 Q fun x => gV (.ref x :: vs) zs) : tMkK C n k sp gV E t tk σ H Q := h
instance red_i_mkK  : Red (tMkK C n k sp gV E t tk σ H Q) (t σ H fun vs H1 => tk σ H1 fun zs H2 => vs.length = n ∧ zs.length = k ∧
    Made C sp E H2 Q fun x => gV (.ref x :: vs) zs) := ⟨i_mkK⟩
/-- an attribute -/
def FldR (K : PySem.W.Frag) (f : Str) (x : V) (H1 : Hp) (Q : VK) : Prop := ∃ a C dx fs v, x = .ref a ∧
  H1 a = some (.ins C dx fs) ∧ Cls K C ∧ NoAttr K C f ∧ fs.lookup f = some v ∧ Q v H1
theorem i_fld (h : ta σ H fun x H1 => FldR K f x H1 Q) : tFld K ta f σ H Q := h
instance red_i_fld  : Red (tFld K ta f σ H Q) (ta σ H fun x H1 => FldR K f x H1 Q) := ⟨i_fld⟩
theorem i_fldR (ho : H a = some (.ins C dx fs)) (c : Cls K C) (n : NoAttr K C f) (hl : fs.lookup f = some v)
    (h : Q v H) : FldR K f (.ref a) H Q := ⟨a, C, dx, fs, v, rfl, ho, c, n, hl, h⟩
def FldS (K : PySem.W.Frag) (f : Str) (y x : V) (D : Ends) (σ : L2.St) (H2 : Hp) : Prop := ∃ a C dx fs, x = .ref a ∧
  H2 a = some (.ins C dx fs) ∧ Cls K C ∧ NoAttr K C f ∧ fs.length < 1000 ∧ D.nx σ (upd H2 a (.ins C dx (putF f y fs)))
theorem i_fldS (h : tv σ H fun y H1 => ta σ H1 fun x H2 => FldS K f y x D σ H2) : sFld K ta tv f D σ H := h
instance red_i_fldS  : Red (sFld K ta tv f D σ H) (tv σ H fun y H1 => ta σ H1 fun x H2 => FldS K f y x D σ H2) := ⟨i_fldS⟩
theorem i_fldSR {y : V} (ho : H a = some (.ins C dx fs)) (c : Cls K C) (n : NoAttr K C f) (hl : fs.length < 1000)
    (h : D.nx σ (upd H a (.ins C dx (putF f y fs)))) : FldS K f y (.ref a) D σ H := ⟨a, C, dx, fs, rfl, ho, c, n, hl, h⟩
end
end G
namespace G
open PySem PySem.Spec PyProof.Rows L2
/-! the facts of the top -/
section
variable {K : PySem.W.Frag} {x qual : Str} {st : Stmt} {f D : Addr} {oc : Value} {od an : Option Addr} {osl : Array (Option Value)}
variable {kV doc pm cdv ct : Value} {ps : List Str}
theorem fund0 (l : K.lookup f = some ⟨oc, od, .func (PySem.W.fnOf x qual (defArgs st) (defBody st)
      (defScope st) .none kV doc pm an cdv ct), osl⟩)
    (c : PySem.W.codeIn K cdv qual = true) (k : PySem.W.keepIn K (.ref f) = true) :
    FunD K x qual (defArgs st) (defBody st) (defScope st) [] [] f
      (PySem.W.fnOf x qual (defArgs st) (defBody st) (defScope st) .none kV doc pm an cdv ct) :=
  ⟨⟨oc, od, .none, kV, doc, pm, an, cdv, ct, osl, rfl, l, c, .inl ⟨rfl, rfl⟩, .inl rfl⟩, k⟩
theorem fund1 {kws : List (Str × V)} (l : K.lookup f = some ⟨oc, od, .func (PySem.W.fnOf x qual (defArgs st) (defBody st)
      (defScope st) .none (.ref D) doc pm an cdv ct), osl⟩)
    (c : PySem.W.codeIn K cdv qual = true) (k : PySem.W.keepIn K (.ref f) = true)
    (q : ∀ q ∈ kws, ∃ u, PySem.W.nsIn K D q.1 = some (some u) ∧ RelV q.2 u) :
    FunD K x qual (defArgs st) (defBody st) (defScope st) [] kws f
      (PySem.W.fnOf x qual (defArgs st) (defBody st) (defScope st) .none (.ref D) doc pm an cdv ct) :=
  ⟨⟨oc, od, .none, .ref D, doc, pm, an, cdv, ct, osl, rfl, l, c, .inl ⟨rfl, rfl⟩, .inr ⟨D, rfl, q⟩⟩, k⟩
theorem kw_one {nm : Str} {v : V} {u : Value} (e : PySem.W.nsIn K D nm = some (some u)) (r : RelV v u) :
    ∀ q ∈ [(nm, v)], ∃ u, PySem.W.nsIn K D q.1 = some (some u) ∧ RelV q.2 u := fun q hq => by
  rw [List.mem_singleton.mp hq]
  exact ⟨u, e, r⟩
theorem kw_more {nm : Str} {v : V} {u : Value} {l : List (Str × V)} (e : PySem.W.nsIn K D nm = some (some u)) (r : RelV v u)
    (h : ∀ q ∈ l, ∃ u, PySem.W.nsIn K D q.1 = some (some u) ∧ RelV q.2 u) :
    ∀ q ∈ (nm, v) :: l, ∃ u, PySem.W.nsIn K D q.1 = some (some u) ∧ RelV q.2 u := fun q hq => by
  rcases List.mem_cons.mp hq with z | z
  · rw [z]
    exact ⟨u, e, r⟩
  · exact h q z
/-- positional values, then by places of what the keywords and the defaults give -/
def gp (idx : List Nat) {α : Type} (vs mz zs : List α) : List α := vs ++ idx.filterMap fun i => (zs ++ mz)[i]?
theorem vals_idx {vs : List V} {us : List Value} (r : Vals vs us) : ∀ idx : List Nat,
    Vals (idx.filterMap fun i => vs[i]?) (idx.filterMap fun i => us[i]?)
  | [] => .nil
  | i :: idx => by
    have ih := vals_idx r idx
    cases e : vs[i]? with
    | none =>
      have e2 := Vals.none_of r e
      rw [List.filterMap_cons_none e, List.filterMap_cons_none e2]
      exact ih
    | some v =>
      obtain ⟨u, e2, q⟩ := Vals.get r e
      rw [List.filterMap_cons_some e, List.filterMap_cons_some e2]
      exact .cons q ih
theorem gp_rel (idx : List Nat) {vs mz zs : List V} {us mv ws : List Value} (r : Vals vs us) (r1 : Vals mz mv) (r2 : Vals zs ws) :
    Vals (gp idx vs mz zs) (gp idx us mv ws) := r.append (vals_idx (r2.append r1) idx)
variable {params : Arguments} {body : List Stmt} {scope : Scope} {fd : FuncData} {kws : List (Str × V)}
theorem bindN (F : FunD K x qual params body scope [] [] f fd)
    (h : ∀ (kV doc pm : Value) (an : Option Addr) (cdv ct : Value) (us : List Value), us.length = ps.length →
      bindArgs (PySem.W.fnOf x qual params body scope .none kV doc pm an cdv ct) ⟨us, []⟩ = pure (ps.zip us)) :
    BindsD K fd ps [] := BindsD.plain (F.bindsN h)
theorem bindK (F : FunD K x qual params body scope [] kws f fd) (n : Nat) (hk : kws ≠ []) (hn : n + kws.length = ps.length)
    (h : ∀ (D : Addr) (doc pm : Value) (an : Option Addr) (cdv ct : Value) (us ks : List Value), us.length = n →
      ks.length = kws.length → KwChain D ((kws.map (·.1)).zip ks)
        (bindArgs (PySem.W.fnOf x qual params body scope .none (.ref D) doc pm an cdv ct) ⟨us, []⟩) (ps.zip (us ++ ks))) :
    BindsD K fd ps (kws.map (·.2)) := F.binds0 n hk hn h
theorem kbN (F : FunD K x qual params body scope [] [] f fd) (n : Nat) (ks : List Str) (idx : List Nat)
    (h : ∀ (kV doc pm : Value) (an : Option Addr) (cdv ct : Value) (us ws : List Value), us.length = n →
      ws.length = ks.length → bindArgs (PySem.W.fnOf x qual params body scope .none kV doc pm an cdv ct) ⟨us, ks.zip ws⟩ =
        pure (ps.zip (gp idx us [] ws))) : KBnD K fd ps n ks (fun vs zs => gp idx vs [] zs) := by
  refine ⟨fun us ws => gp idx us [] ws, ?_, fun r1 r2 => gp_rel idx r1 .nil r2⟩
  intro s us ws kin l1 l2
  obtain ⟨oc, od, dV, kV, doc, pm, an, cdv, ct, osl, rfl, lk, hcd, hD, hK⟩ := F.ex
  rcases hD with ⟨_, rfl⟩ | ⟨e, _⟩
  · exact .of_eq (h kV doc pm an cdv ct us ws l1 l2)
  · exact absurd rfl e
theorem kbK (F : FunD K x qual params body scope [] kws f fd) (n : Nat) (ks : List Str) (ms : List (Str × V)) (idx : List Nat)
    (hk : kws ≠ []) (hms : ∀ q ∈ ms, q ∈ kws)
    (h : ∀ (D : Addr) (doc pm : Value) (an : Option Addr) (cdv ct : Value) (us mv ws : List Value), us.length = n →
      mv.length = ms.length → ws.length = ks.length → KwChain D ((ms.map (·.1)).zip mv)
        (bindArgs (PySem.W.fnOf x qual params body scope .none (.ref D) doc pm an cdv ct) ⟨us, ks.zip ws⟩)
        (ps.zip (gp idx us mv ws))) : KBnD K fd ps n ks (fun vs zs => gp idx vs (ms.map (·.2)) zs) := by
  obtain ⟨mv, h⟩ := F.kbinds0 n ks ms (fun vs mz zs => gp idx vs mz zs) hk hms (fun r r1 r2 => gp_rel idx r r1 r2) h
  exact ⟨_, h⟩
end
end G
namespace G
open PySem PySem.Spec PyProof.Rows L2
section
variable {X : Cx} {K : PySem.W.Frag} {k n : Nat} {f C : Addr} {fd : FuncData} {ps : List Str} {sp : Sp}
variable {dvs : List V} {E : XK} {x m : Str} {p pos pos' : Pos} {e o value : Expr} {fl : Str} {ta tv : TE}
theorem d0 (F : Fg X k f fd ps sp) (z : RoomG k X.A) (hg : Gl X x) (hm : X.mg x = some (.ref f))
    (hk : PySem.W.keepIn X.K (.ref f) = true) (hb : BindsD X.K fd ps dvs)
    (hx : Ps X E) (hdb : (x == ("__debug__" : Str)) = false := by decide) :
    PE X (.Call (.Name x p) [] [] pos) (tCall sp dvs E tNil) := by
  obtain ⟨ds, hd, hb⟩ := hb
  exact c0 F z hg hm hk hb hd hx hdb
theorem k_sfld (h : X.K = K) (ha : PE X o ta) (hv : PE X value tv)
    (hs : swapsWith value (some (.Attribute o fl pos')) pos.line X.env = pure false) :
    PS X (.Assign [.Attribute o fl pos'] value pos) (sFld K ta tv fl) := h ▸ ps_fld ha hv hs
theorem k_pzip {e2 : Expr} {t : TA} {tpos : Pos} {elts : List Expr} {kk : Nat} (h : X.K = K) (hg : Gl X "zip") (hm : X.mg "zip" = none)
    (ha : PA X [e, e2] t) (hs : starEach [e, e2] X.env = (false, eval e X.env) :: starEach [e2] X.env := by rfl)
    (hpl : (backTo pos (starEach [e2] X.env)).any (·.1) = false := by rfl) :
    PI X (.Tuple elts kk tpos) (.Call (.Name "zip" p) [e, e2] [] pos) (iZip K t) := h ▸ pi_zip hg hm ha hs hpl
end
section
variable {K : PySem.W.Frag} {σ : L2.St} {H H1 : Hp} {Q : VK} {D : Ends} {tb : TS} {te : TE} {tt : TT} {g : TG}
variable {a b p q l C dx : Addr} {xs ys vs us : List V} {v x y : V} {fs : List (Str × V)} {f m : Str} {t ta : TE} {tr : TA} {sp : Sp} {E : XK}
variable {dvs : List V} {vn : List Nat}
theorem i_methD {t : TA} (h : ta σ H fun x H1 => MethR C m sp E (fun σ H Q => t σ H fun vs H' => Q (vs ++ dvs) H') σ x H1 Q) :
    tMeth C m sp dvs E ta t σ H Q := h
instance (priority := 900) red_i_methD {t : TA} : Red (tMeth C m sp dvs E ta t σ H Q) (ta σ H fun x H1 => MethR C m sp E (fun σ H Q => t σ H fun vs H' => Q (vs ++ dvs) H') σ x H1 Q) := ⟨i_methD⟩
theorem i_isNn (h : Q (.bl true) H) : rIsN .non .non H Q := ⟨rfl, h⟩
instance red_i_isNn  : Red (rIsN .non .non H Q) (Q (.bl true) H) := ⟨i_isNn⟩
theorem i_isNr (h : Q (.bl false) H) : rIsN (.ref a) .non H Q := ⟨rfl, h⟩
instance red_i_isNr  : Red (rIsN (.ref a) .non H Q) (Q (.bl false) H) := ⟨i_isNr⟩
theorem i_isNi {n : Int} (h : Q (.bl false) H) : rIsN (.int n) .non H Q := ⟨rfl, h⟩
instance red_i_isNi {n : Int} : Red (rIsN (.int n) .non H Q) (Q (.bl false) H) := ⟨i_isNi⟩
theorem i_notNn (h : Q (.bl false) H) : rNotN .non .non H Q := ⟨rfl, h⟩
instance red_i_notNn  : Red (rNotN .non .non H Q) (Q (.bl false) H) := ⟨i_notNn⟩
theorem i_notNr (h : Q (.bl true) H) : rNotN (.ref a) .non H Q := ⟨rfl, h⟩
instance red_i_notNr  : Red (rNotN (.ref a) .non H Q) (Q (.bl true) H) := ⟨i_notNr⟩
theorem i_notNi {n : Int} (h : Q (.bl true) H) : rNotN (.int n) .non H Q := ⟨rfl, h⟩
instance red_i_notNi {n : Int} : Red (rNotN (.int n) .non H Q) (Q (.bl true) H) := ⟨i_notNi⟩
/-- a for over zip of two lists -/
def ForZ (K : PySem.W.Frag) (ws : List V) (g : TG) (tb : TS) (D : Ends) (σ : L2.St) (H : Hp) : Prop :=
  ∃ a b xs ys, ws = [.ref a, .ref b] ∧ SqL K H a xs ∧ SqL K H b ys ∧ ∃ W : Nat → Nat → L2.St → Hp → Prop,
    (∃ m, W 0 m σ H) ∧ ∀ i m σ H, W i m σ H → ((Itz K a b).stop i H ∧ D.nx σ H) ∨
      ((Itz K a b).go i H ∧ ∃ Nx : L2.St → Hp → Prop,
        (∀ σ' H', Nx σ' H' → ∃ m', m' < m ∧ W (i + 1) m' σ' H') ∧
        ∀ x H', (Itz K a b).yld i H x H' → g x σ H' fun σ2 H2 =>
          tb { D with nx := Nx, ct := Nx, bk := D.nx } σ2 H2)
theorem i_forZ (h : tr σ H fun ws H1 => ForZ K ws g tb D σ H1) : tFor (iZip K tr) g tb D σ H := h
instance red_i_forZ  : Red (tFor (iZip K tr) g tb D σ H) (tr σ H fun ws H1 => ForZ K ws g tb D σ H1) := ⟨i_forZ⟩
theorem i_both (hx : SqL K H a xs) (hy : SqL K H b ys) (Pv : Nat → L2.St → Hp → Prop) (h0 : Pv 0 σ H)
    (hl : ∀ i σ H, Pv i σ H → SqL K H a xs ∧ SqL K H b ys)
    (st : ∀ i x y T σ H, xs[i]? = some x → ys[i]? = some y → Pv i σ H → Fr H T → g (.ref T) σ (upd H T (.tup [x, y])) fun σ2 H2 =>
      tb { D with nx := Pv (i + 1), ct := Pv (i + 1), bk := D.nx } σ2 H2)
    (hd : ∀ σ H, Pv (min xs.length ys.length) σ H → D.nx σ H) : ForZ K [.ref a, .ref b] g tb D σ H := by
  refine ⟨a, b, xs, ys, rfl, hx, hy, fun i m σ H => m = min xs.length ys.length - i ∧ i ≤ min xs.length ys.length ∧ Pv i σ H,
    ⟨_, rfl, Nat.zero_le _, h0⟩, ?_⟩
  rintro i m σ H ⟨rfl, hi, z⟩
  obtain ⟨qx, qy⟩ := hl i σ H z
  by_cases c : i < min xs.length ys.length
  · have c1 : i < xs.length := by omega
    have c2 : i < ys.length := by omega
    refine .inr ⟨⟨xs, ys, _, _, qx, qy, List.getElem?_eq_getElem c1, List.getElem?_eq_getElem c2⟩, Pv (i + 1),
      fun σ' H' w => ⟨_, by omega, rfl, by omega, w⟩, ?_⟩
    rintro v H' ⟨T, x', y', rfl, hT, rfl, f1, f2⟩
    exact st i x' y' T σ H (f1 xs qx) (f2 ys qy) z ⟨hT⟩
  · have e : i = min xs.length ys.length := by omega
    refine .inl ⟨⟨xs, ys, qx, qy, by omega⟩, hd σ H (by rw [← e]; exact z)⟩
/-- a comprehension over zip of two lists -/
def LcZ (K : PySem.W.Frag) (ws : List V) (g : TG) (tt : TT) (te : TE) (vs : List Nat) (σ : L2.St) (H1 : Hp) (Q : VK) : Prop :=
  ∃ a b xs ys, ws = [.ref a, .ref b] ∧ SqL K H1 a xs ∧ SqL K H1 b ys ∧ ∀ D, H1 D = none →
    ∃ W : Nat → Nat → Hp → Prop, (∃ m, W 0 m (upd H1 D (.lst []))) ∧ ∀ i m H, W i m H →
      ((Itz K a b).stop i H ∧ Q (.ref D) H) ∨ ((Itz K a b).go i H ∧ ∃ Nx : Hp → Prop,
        (∀ H', Nx H' → ∃ m', m' < m ∧ W (i + 1) m' H') ∧
        ∀ x H', (Itz K a b).yld i H x H' → g x (wipe σ vs) H' fun σ2 H2 => wipe σ2 vs = wipe σ vs ∧ tt σ2 H2 fun b H3 =>
          if b = true then te σ2 H3 fun y H4 => ∃ acc, H4 D = some (.lst acc) ∧ acc.length < sizeLine ∧
            Nx (upd H4 D (.lst (acc ++ [y]))) else Nx H3)
theorem i_lcZ (h : tr σ H fun ws H1 => LcZ K ws g tt te vn σ H1 Q) : tLc (iZip K tr) g tt te vn σ H Q := h
instance red_i_lcZ  : Red (tLc (iZip K tr) g tt te vn σ H Q) (tr σ H fun ws H1 => LcZ K ws g tt te vn σ H1 Q) := ⟨i_lcZ⟩
theorem i_eltz (hx : SqL K H a xs) (hy : SqL K H b ys) (Pv : Addr → Nat → Hp → Prop)
    (h0 : ∀ D, Fr H D → Pv D 0 (upd H D (.lst [])))
    (hl : ∀ D i H', Fr H D → Pv D i H' → SqL K H' a xs ∧ SqL K H' b ys)
    (st : ∀ D i x y T H', Fr H D → xs[i]? = some x → ys[i]? = some y → Pv D i H' → Fr H' T →
      g (.ref T) (wipe σ vn) (upd H' T (.tup [x, y])) fun σ2 H2 =>
      wipe σ2 vn = wipe σ vn ∧ tt σ2 H2 fun b H3 => if b = true then te σ2 H3 fun y H4 =>
        ∃ acc, H4 D = some (.lst acc) ∧ acc.length < sizeLine ∧ Pv D (i + 1) (upd H4 D (.lst (acc ++ [y])))
        else Pv D (i + 1) H3)
    (hd : ∀ D H', Fr H D → Pv D (min xs.length ys.length) H' → Q (.ref D) H') : LcZ K [.ref a, .ref b] g tt te vn σ H Q := by
  refine ⟨a, b, xs, ys, rfl, hx, hy, fun D hD => ⟨fun i m H => m = min xs.length ys.length - i ∧ i ≤ min xs.length ys.length ∧ Pv D i H,
    ⟨_, rfl, Nat.zero_le _, h0 D ⟨hD⟩⟩, ?_⟩⟩
  rintro i m H ⟨rfl, hi, z⟩
  obtain ⟨qx, qy⟩ := hl D i H ⟨hD⟩ z
  by_cases c : i < min xs.length ys.length
  · have c1 : i < xs.length := by omega
    have c2 : i < ys.length := by omega
    refine .inr ⟨⟨xs, ys, _, _, qx, qy, List.getElem?_eq_getElem c1, List.getElem?_eq_getElem c2⟩, Pv D (i + 1),
      fun H' w => ⟨_, by omega, rfl, by omega, w⟩, ?_⟩
    rintro v H' ⟨T, x', y', rfl, hT, rfl, f1, f2⟩
    exact st D i x' y' T H ⟨hD⟩ (f1 xs qx) (f2 ys qy) z ⟨hT⟩
  · have e : i = min xs.length ys.length := by omega
    refine .inl ⟨⟨xs, ys, qx, qy, by omega⟩, hd D H ⟨hD⟩ (by rw [← e]; exact z)⟩
/-- [v] * n -/
theorem i_rep {n : Int} (h : H l = some (.lst [v])) (h0 : 0 ≤ n) (h1 : n ≤ 1000000)
    (q : New H fun p => Q (.ref p) (upd H p (.lst (List.replicate n.toNat v)))) : rRep (.ref l) (.int n) H Q := by
  refine ⟨l, n, [v], rfl, rfl, h, by omega, by omega, ?_, fun p hp => ?_⟩
  · have e : ([v] : List V).length * n.toNat ≤ 1000000 := by
      rw [List.length_singleton]
      omega
    exact Nat.le_trans e (by decide)
  · have e : (List.replicate n.toNat [v]).flatten = List.replicate n.toNat v := by
      induction n.toNat with
      | zero => rfl
      | succ k ih => rw [List.replicate_succ, List.flatten_cons, ih, List.replicate_succ]; rfl
    rw [e]
    exact q p hp
/-- an object's entry -/
theorem Kp.upi {ws : List Addr} {H0 H1 : Hp} (k : Kp ws H0 H1) (h : H1 p = some (.ins C dx fs)) (hp : p ∈ ws) {o : HO} : Kp ws H0 (L2.upd H1 p o) :=
  k.trans (Kp.mut h (fun z => z) hp)
end
/-! ### runs and cells -/
def cells (ps : List (Int × Int)) : List Int := ps.flatMap fun p => List.replicate p.1.toNat p.2
def tag (c : Int) : Int × Int := (1, c)
end G
namespace G
open PySem PySem.Spec PyProof.Rows L2
section
variable {K : PySem.W.Frag} {σ : L2.St} {H H1 : Hp} {Q : VK} {a b p q l m C dx : Addr} {xs ys : List V} {fs : List (Str × V)} {o : HO}
variable {ds : List PyData} {ws : List Addr}
theorem i_addL (hx : H a = some (.lst xs)) (hy : H b = some (.lst ys)) (hz : xs.length + ys.length ≤ 1000000)
    (h : New H fun p => Q (.ref p) (upd H p (.lst (xs ++ ys)))) : uAdd K (.ref a) (.ref b) H Q :=
  .inr (.inr (.inl ⟨a, b, xs, ys, rfl, rfl, hx, hy, Nat.le_trans hz (by decide), h⟩))
theorem ld_ins (h : LD K H l ds) (hi : imms ds = true) (hq : H q = some (.ins C dx fs)) : LD K (upd H q o) l ds := by
  have k : Kp [q] H (L2.upd H q o) := Kp.mut hq (fun z => z) List.mem_cons_self
  refine h.kp k hi (not_one ?_)
  obtain ⟨vs, e, _⟩ := h
  intro z
  rw [z, hq] at e
  cases e
end
end G
namespace G
open L2 PySem
theorem fs_few {fs : List (Str × V)} (h : fs.length.blt 1000 = true) : fs.length < 1000 := by
  rw [Nat.blt_eq] at h
  exact h
end G
namespace G
open L2 PySem
theorem ld_push {K : PySem.W.Frag} {H0 H1 : Hp} {l : Addr} {vs : List V} {y : V} {ds : List PyData} {d : PyData} {ws : List Addr}
    (kp : Kp ws H0 H1) (h : DpAll K H0 vs ds) (hi : imms ds = true) (hv : H1 l = some (.lst (vs ++ [y]))) (hd : Dp K H1 y d) :
    LD K H1 l (ds ++ [d]) := ⟨_, hv, dpa_app (dpa_imm kp _ _ hi h) (dpa_one hd)⟩
end G
namespace G
open PySem PySem.Spec PyProof.Rows L2
/-! slices: read and written -/
section
variable {X : Cx} {o : Expr} {lo hi : Option Expr} {to : TE} {tl th : TO} {pos p2 : Pos}
def CutS (x : V) (i j : Option Int) (v : V) (H : Hp) (P : Hp → Prop) : Prop := ∃ l b xs ys a c, x = .ref l ∧ v = .ref b ∧
  i = some a ∧ j = some c ∧ H l = some (.lst xs) ∧ H b = some (.lst ys) ∧ l ≠ b ∧ 0 ≤ a ∧ a ≤ c ∧ c ≤ xs.length ∧
  xs.length + ys.length ≤ sizeLine ∧ P (upd H l (.lst (xs.take a.toNat ++ ys ++ xs.drop c.toNat)))
def gCut (to : TE) (tl th : TO) : TG := fun v σ H S => to σ H fun x H1 => tl σ H1 fun i H2 => th σ H2 fun j H3 =>
  CutS x i j v H3 fun H4 => S σ H4
theorem pg_cut (ho : PE X o to) (hl : PO X lo tl) (hu : PO X hi th)
    (ha : ∀ v, assign (.Subscript o (.Slice lo hi none p2) pos) X.env v = (do
      let ov ← holding [v] (eval o X.env)
      let iv ← holding [v, ov] (eval (.Slice lo hi none p2) X.env)
      standAt pos
      holding [v, ov, iv] (setItem ov iv v)
      release [iv, v, ov] []) := by intro _; rfl) :
    PG X (.Subscript o (.Slice lo hi none p2) pos) (gCut to tl th) := by
  constructor
  intro pins s σ H v u Q I r h
  rw [ha]
  refine wpAny_bind (wpAny_holding (thn (ho.run pins s σ H _ I h) ?_))
  rintro ov s1 ⟨x, H1, I1, r1, q1⟩
  refine wpAny_bind (wpAny_holding (PySem.wpAny_Slice (thn (hl.run pins s1 σ H1 _ I1 q1) ?_)))
  rintro vl s2 ⟨i, H2, I2, pl, q2⟩
  refine thn (hu.run pins s2 σ H2 _ I2 q2) ?_
  rintro vu s3 ⟨j, H3, I3, pu, q3⟩
  rw [evalPart_none]
  refine wpAny_pure ?_
  have I4 : Inv X pins σ H3 { s3 with heap := s3.heap.push { cls := .type "slice", data := .fields #[vl, vu, .none] } } :=
    I3.kept (t' := s3.toks) fun b ob z => Heap.get?_push_of_some _ z
  obtain ⟨l, b, xs, ys, a, c, rfl, rfl, rfl, rfl, e1, e2, ne, h0, hac, hc, hz, q⟩ := q3
  cases r1
  cases r
  cases pl
  rename_i ta
  cases pu
  rename_i tc
  refine wpAny_bind (wpAny_standAt (wpAny_bind (wpAny_holding ?_)))
  refine set_slice I4 e1 e2 ne (Heap.IsSliceOf.new ..) ⟨ta, rfl⟩ ⟨tc, rfl⟩ h0 hac hc hz ?_
  intro s5 I5
  exact wpAny_release ⟨σ, _, I5, q⟩
end
section
variable {K : PySem.W.Frag} {σ : L2.St} {H : Hp} {Q : VK} {a b l : Addr} {xs ys : List V} {r : V → Option Int → Option Int → Hp → VK → Prop}
variable {te to : TE} {tl th : TO} {P : Hp → Prop} {S : L2.St → Hp → Prop} {v x : V} {lo hi : Option Int} {R : Option Int → Hp → Prop}
theorem i_gCut (h : to σ H fun x H1 => tl σ H1 fun i H2 => th σ H2 fun j H3 => CutS x i j v H3 fun H4 => S σ H4) :
    gCut to tl th v σ H S := h
instance red_i_gCut  : Red (gCut to tl th v σ H S) (to σ H fun x H1 => tl σ H1 fun i H2 => th σ H2 fun j H3 => CutS x i j v H3 fun H4 => S σ H4) := ⟨i_gCut⟩
theorem i_cutS {i j : Int} (h1 : H l = some (.lst xs)) (h2 : H b = some (.lst ys)) (ne : l ≠ b) (h0 : 0 ≤ i ∧ i ≤ j ∧ j ≤ xs.length)
    (hz : xs.length + ys.length ≤ 1000000) (q : P (upd H l (.lst (xs.take i.toNat ++ ys ++ xs.drop j.toNat)))) :
    CutS (.ref l) (some i) (some j) (.ref b) H P :=
  ⟨l, b, xs, ys, i, j, rfl, rfl, rfl, rfl, h1, h2, ne, h0.1, h0.2.1, h0.2.2, Nat.le_trans hz (by decide), q⟩
theorem i_sl (h : te σ H fun x H1 => tl σ H1 fun l H2 => th σ H2 fun u H3 => r x l u H3 Q) : tSl r te tl th σ H Q := h
instance red_i_sl  : Red (tSl r te tl th σ H Q) (te σ H fun x H1 => tl σ H1 fun l H2 => th σ H2 fun u H3 => r x l u H3 Q) := ⟨i_sl⟩
theorem i_part (h : te σ H fun x H1 => ∃ i, x = .int i ∧ R (some i) H1) : tPart te σ H R := h
instance red_i_part  : Red (tPart te σ H R) (te σ H fun x H1 => ∃ i, x = .int i ∧ R (some i) H1) := ⟨i_part⟩
theorem i_partI {n : Int} {P : Int → Prop} (h : P n) : ∃ i, V.int n = .int i ∧ P i := ⟨n, rfl, h⟩
instance red_i_partI {n : Int} {P : Int → Prop} : Red (∃ i, V.int n = .int i ∧ P i) (P n) := ⟨i_partI⟩
theorem i_noPart (h : R none H) : tNoPart σ H R := h
instance red_i_noPart  : Red (tNoPart σ H R) (R none H) := ⟨i_noPart⟩
theorem i_slL (h : SqL K H a xs) (q : New H fun p => Q (.ref p) (upd H p (.lst (cutV xs lo hi)))) : rSlL K (.ref a) lo hi H Q :=
  ⟨a, xs, rfl, h, q⟩
end
theorem cutV_mid {xs : List V} {i j : Int} (h : 0 ≤ i ∧ i ≤ j ∧ j ≤ xs.length) :
    cutV xs (some i) (some j) = (xs.drop i.toNat).take (j.toNat - i.toNat) := by
  obtain ⟨a, rfl⟩ := Int.eq_ofNat_of_zero_le h.1
  obtain ⟨c, rfl⟩ := Int.eq_ofNat_of_zero_le (Int.le_trans h.1 h.2.1)
  unfold cutV
  rw [HT.sIx_nat, HT.sIx_nat, Int.toNat_natCast, Int.toNat_natCast, Nat.min_eq_left (by omega), Nat.min_eq_left (by omega)]
theorem cutV_tail (x : V) (xs : List V) : cutV (x :: xs) (some 1) none = xs := by
  have e := HT.sIx_nat (x :: xs).length 0 1
  unfold cutV
  rw [show ((1 : Int)) = ((1 : Nat) : Int) from rfl, e, HT.sIx_none, List.length_cons, Nat.min_eq_left (by omega), List.drop_succ_cons, List.drop_zero]
  exact List.take_of_length_le (by omega)
theorem ix_nat {n j : Nat} (h : j < n) : ixN n (j : Int) = some j := by
  unfold ixN
  rw [if_pos (by omega), if_pos (by omega), Int.toNat_natCast]
theorem ix_int {n : Nat} {j : Int} (h0 : 0 ≤ j) (h : j < n) : ixN n j = some j.toNat := by
  unfold ixN
  rw [if_pos h0, if_pos h]
/-- one of two -/
theorem at_two {f : Nat → V} {r : Int} (h0 : 0 ≤ r) (h1 : r < 2) : atI [f 0, f 1] r = some (f r.toNat) := by
  have e : r = 0 ∨ r = 1 := by omega
  rcases e with rfl | rfl <;> rfl
end G
set_option Elab.async false
set_option linter.all false
set_option maxRecDepth 100000
set_option maxHeartbeats 4000000
namespace My
open PySem L2 G
/-! ### exceptions of the text's own classes, with an __init__ of their own -/
section
open PySem.W PySem.Calls PyProof.Rows
/-- what a class of the library gives to a class of the text over it -/
structure Under (B newId initId : String) (tail : List Value) : Prop where
  F : ExcBaseFacts B newId initId tail
  pass : ∀ self, refuseLoop self "__setattr__" tail = pure ()
  ob : tail.contains (.type "object") = true
  ne : tail.isEmpty = false
/-- classes of the text, then the library's -/
def refsOn (tail : List Value) : List Value → Bool
  | .ref _ :: r => refsOn tail r
  | l => l == tail
theorem refsOn_or {tail l : List Value} (h : refsOn tail l = true) : (∃ c r, l = .ref c :: r ∧ refsOn tail r = true) ∨ l = tail := by
  cases l with
  | nil => exact .inr (beq_iff_eq.mp h)
  | cons a r =>
    cases a with
    | ref c => exact .inl ⟨c, r, rfl, h⟩
    | _ => exact .inr (beq_iff_eq.mp h)
theorem Under.pass_all {B newId initId : String} {tail : List Value} (U : Under B newId initId tail) (self : Value) :
    ∀ l : List Value, refsOn tail l = true → refuseLoop self "__setattr__" l = pure () := by
  intro l
  induction l with
  | nil =>
    intro h
    rcases refsOn_or h with ⟨c, r, e, _⟩ | e
    · cases e
    · rw [e]
      exact U.pass self
  | cons a r ih =>
    intro h
    rcases refsOn_or h with ⟨c, r2, e, h2⟩ | e
    · cases e
      rw [refuseLoop_ref]
      exact ih h2
    · rw [e]
      exact U.pass self
theorem Under.has_all {B newId initId : String} {tail : List Value} (U : Under B newId initId tail) (X : String) :
    ∀ l : List Value, refsOn tail l = true → l.contains (.type X) = tail.contains (.type X) := by
  intro l
  induction l with
  | nil =>
    intro h
    rcases refsOn_or h with ⟨c, r, e, _⟩ | e
    · cases e
    · rw [e]
  | cons a r ih =>
    intro h
    rcases refsOn_or h with ⟨c, r2, e, h2⟩ | e
    · cases e
      rw [List.contains_cons, ih h2]
      rfl
    · rw [e]
theorem under_RuntimeError : Under "RuntimeError" "RuntimeError.__new__" "RuntimeError.__init__" [.type "RuntimeError", .type "Exception", .type "BaseException", .type "object"] :=
  ⟨PySem.F.excBase_RuntimeError, fun _ => by kernel_rfl, by decide +kernel, rfl⟩
theorem under_LookupError : Under "LookupError" "LookupError.__new__" "LookupError.__init__" [.type "LookupError", .type "Exception", .type "BaseException", .type "object"] :=
  ⟨PySem.F.excBase_LookupError, fun _ => by kernel_rfl, by decide +kernel, rfl⟩
section
open Builtin Builtin.ObjectAttr
variable {prog : Program} {w : World} {A : Around} {E : Value → Shared → Prop} {R : Result → Shared → Prop} {hp : Heap} {g : Array GenState} {d : Drawn} {t : Nat} {os : OsState}
/-- the first field that is stored in such an exception -/
theorem first_field {K : PySem.W.Frag} {name : Str} {tk : Tok} {v : Value} {x C : Addr} {fv : Array Value} {cd : ClassData}
    (inn : K.In hp) (hx : hp.get? x = some { cls := .ref C, data := .fields fv }) (cl : clsIn K C = some cd) (pass : ∀ self, refuseLoop self "__setattr__" cd.mro = pure ())
    (ob : cd.mro.contains (.type "object") = true) (ne : cd.mro.isEmpty = false) (dct : cd.hasDict = true) (no : findIn K (.ref C) name = some none)
    (q : ∀ h' tk' dx, (∀ b o, b ≠ x → hp.get? b = some o → h'.get? b = some o) → hp.objs.size ≤ dx → dx ≠ x → h'.get? x = some { cls := .ref C, dict := some dx, data := .fields fv } →
      h'.Ns1 dx (fun y => if y = name then some v else none) → R (.ok (.ret .none)) ⟨h', g, d, tk', os⟩) :
    codeAny (model prog w) A (.call (.builtin "object.__setattr__") ⟨[.ref x, .str name tk, v], []⟩) R ⟨hp, g, d, t, os⟩ := by
  have J : InstAt hp x { cls := .ref C, data := .fields fv } C none := ⟨hx, rfl, rfl, trivial⟩
  have S := PySem.F.store_object
  have nx : x ≠ hp.objs.size := Nat.ne_of_lt (Heap.lt_size hx)
  have isob : Looks (model prog w) hp (isInstance (.ref x) (.type "object")) true := by
    refine J.type.andThen (looks_mroIn inn ?_)
    unfold mroIn
    rw [cl, Option.bind_some, if_neg (by rw [ne]; decide), ob]
  have mro_ : Looks (model prog w) hp (mroOf (.ref C)) cd.mro := (looks_clsIn inn cl).andThen .now
  have taker : Looks (model prog w) hp (storeTaker? none) none := .now
  have data_ : Looks (model prog w) hp (classData C) cd := looks_clsIn inn cl
  refine codeAny_call_builtin S.slot.plain S.entry
    (check_slot (M := model prog w) (s := ⟨hp, g, d, t, os⟩) (owner := "object") (n := "__setattr__") S.kind S.split isob (S.args (.ref x) (.str name tk) v) ?_)
  rw [osa_eq, refuse_eq]
  apply wpAny_bind
  apply wpAny_bind
  refine J.type.at ?_
  apply wpAny_bind
  refine mro_.at ?_
  rw [pass]
  apply wpAny_pure
  apply wpAny_bind
  refine J.type.at ?_
  apply wpAny_bind
  refine (looks_findIn inn no).at ?_
  apply wpAny_bind
  refine taker.at ?_
  show wpAny _ _ (storeInOwnDict (.ref x) (.ref C) (.str name tk) name v false) _ _ _
  cases cd
  dsimp only at dct
  subst dct
  unfold storeInOwnDict ownDictForStores
  repeat (first
    | with_reducible refine HandSPX.store_in_new ?_ ?_
    | with_reducible refine wpAny_loadPart_at hx ?_
    | with_reducible refine data_.at ?_
    | wp_step)
  · have e : ∀ f, ((hp.push { cls := .type "dict", data := .dict #[] }).update x f).get? hp.objs.size = some { cls := .type "dict", data := .dict #[] } := fun f => by
      rw [Heap.get?_update_ne _ _ _ _ (Ne.symm nx)]
      exact Heap.get?_push_at rfl rfl
    exact ⟨_, #[], _, e _, rfl, fun e he => absurd he (by simp), fun _ => rfl⟩
  · intro h' tk' hn same
    have hx1 : (hp.push { cls := .type "dict", data := .dict #[] }).get? x = some { cls := .ref C, data := .fields fv } := Heap.get?_push_of_some _ hx
    refine q h' tk' hp.objs.size ?_ (Nat.le_refl _) (Ne.symm nx) ?_ hn
    · intro b o hb ho
      rw [same.2 b (Nat.ne_of_lt (Heap.lt_size ho)), Heap.get?_update_ne _ _ _ _ hb]
      exact Heap.get?_push_of_some _ ho
    · rw [same.2 x nx]
      exact Heap.get?_update_self _ hx1 rfl
end
end
/-- what the written part tells of such a class -/
structure XC (K : PySem.W.Frag) (C : Addr) (B newId initId : String) (tail : List Value) : Prop where
  U : Under B newId initId tail
  cls : ∃ nm q N bs bm sn sub ab col dd k0 k1 k2 k3 k5, K.lookup C = some (excClassObj nm q C N bs bm true sn sub ab col dd k0 k1 k2 k3 k5 newId) ∧ refsOn tail bm = true
  sa : PySem.W.findIn K (.ref C) "__setattr__" = some (some (.builtin "object.__setattr__"))
  ex : PySem.W.subIn K (.ref C) (.type "BaseException") = some true
  ty : PySem.W.typeIn K (.ref C) = some (.type "type")
  kp : PySem.W.keepIn K (.ref C) = true
section
variable {X : Cx} {pins : List (Addr × Obj)} {σ : L2.St} {H : Hp} {s : Shared} {a C : Addr} {f : Str} {y : V} {u : Value} {A : Around} {B newId initId : String} {tail : List Value}
/-- the base's own __init__: the exception stays as it is told -/
theorem base_init {us : List Value} {Q : Value → Shared → Prop} {E : Value → Shared → Prop} (T : XC X.K C B newId initId tail) (I : Inv X pins σ H s) (ha : H a = some (exo a C none)) (few : us.length ≤ sizeLine)
    (h : ∀ s', Inv X pins σ H s' → Q .none s') : wpAny (model X.prog X.w) A (call (.builtin initId) (.ref a :: us)) Q E s := by
  obtain ⟨nm, q, N, bs, bm, sn, sub, ab, col, dd, k0, k1, k2, k3, k5, hC, on⟩ := T.cls
  obtain ⟨t1, ho⟩ := exo_at I.hok ha
  cases s with
  | mk hp g d t os =>
    refine wpAny_call (PySem.HandSPX.init_base T.U.F (fun Y => T.U.has_all Y bm on) (I.kIn _ _ hC) ho few ?_)
    intro h' t2 keep hx
    have J := I.write (t' := t) (x := a) (e := a) (o := exo a C none) (by rw [ha]; trivial) (.inl rfl) keep ⟨_, hx⟩ (exo_ok hx)
    have same : upd H a (exo a C none) = H := by
      funext b
      by_cases e : b = a
      · rw [e, upd_same]
        exact ha.symm
      · exact upd_ne e
    rw [same] at J
    exact h _ J
/-- its first field -/
theorem field_new {Q : Unit → Shared → Prop} {E : Value → Shared → Prop} (T : XC X.K C B newId initId tail) (I : Inv X pins σ H s) (ha : H a = some (exo a C none))
    (no : PySem.W.findIn X.K (.ref C) f = some none) (ry : RelV y u)
    (h : ∀ dx s', H dx = none → dx ≠ a → Inv X pins σ (upd (upd H dx (exd dx [(f, y)])) a (exo a C (some dx))) s' → Q () s') :
    wpAny (model X.prog X.w) A (setAttr (.ref a) f u) Q E s := by
  obtain ⟨nm, q, N, bs, bm, sn, sub, ab, col, dd, k0, k1, k2, k3, k5, hC, on⟩ := T.cls
  have cl : PySem.W.clsIn X.K C = some { name := nm, bases := bs, mro := .ref C :: bm, ns := N, qualname := q, hasDict := true, slotNames := sn, subclasses := sub, abstract := ab, collection := col, hasDel := false } := by
    unfold PySem.W.clsIn
    rw [hC] <;> rfl
  have on2 : refsOn tail (.ref C :: bm) = true := on
  obtain ⟨t1, ho⟩ := exo_at I.hok ha
  cases s with
  | mk hp g d t os =>
    refine PySem.W.set_plain I.kIn (ox := { cls := .ref C, dict := none, data := .fields #[.ref t1, .none, .none, .none, .bool false, .none] }) (od := none) ⟨ho, rfl, rfl, trivial⟩ T.sa ?_
    refine first_field I.kIn ho cl (fun self => T.U.pass_all self _ on2) ((T.U.has_all "object" _ on2).trans T.U.ob) rfl rfl no ?_
    intro h' tk' dx keep big dne hx hn
    have hdx : H dx = none := I.hok.fresh big
    have old : ∀ {b : Addr} {o : Obj}, hp.get? b = some o → b ≠ dx := fun {b o} e => Nat.ne_of_lt (Nat.lt_of_lt_of_le (Heap.lt_size e) big)
    have off : ∀ {b : Addr}, H b = none → b ≠ a := fun {b} n z => by
      rw [z, ha] at n
      exact nomatch n
    have U1 : Un X.fs [] H (upd (upd H dx (exd dx [(f, y)])) a (exo a C (some dx))) hp h' := by
      refine ⟨fun b o e n _ _ => keep b o (off n) e, fun b o e n _ _ => ⟨o.slots, keep b o (off n) e⟩, ?_, ?_, ?_, ?_, ?_⟩
      · intro b o e n _
        rw [upd_ne (off n), upd_ne (old e)]
        exact n
      · intro b o e _
        by_cases z : b = a
        · exact ⟨_, by rw [z]; exact hx⟩
        · exact ⟨o, keep b o z e⟩
      · intro b xs e
        rw [upd_ne (at_ne ha e exo_tup), upd_ne (ne_of_none e hdx)]
        exact e
      · intro b o v e
        rw [upd_ne (at_ne ha e exo_frz), upd_ne (ne_of_none e hdx)]
        exact e
      · intro b ps e
        refine ⟨#[], ?_⟩
        rw [upd_ne (at_ne ha e exo_tbl), upd_ne (ne_of_none e hdx), e]
        simp
    refine h dx _ hdx dne (I.un (t' := tk') U1 ?_)
    intro b o e
    by_cases z : b = a
    · subst z
      rw [upd_same] at e
      cases e
      exact exo_ok hx
    rw [upd_ne z] at e
    by_cases z2 : b = dx
    · subst z2
      rw [upd_same] at e
      cases e
      exact exd_ok hn (relO_put (fs := []) ry fun g => trivial)
    rw [upd_ne z2] at e
    refine (I.hok b o e).stay ?_ ?_ ?_
    · intro c v hc r
      refine keep c v ?_ r
      rcases hc with hc | hc
      · rw [hc]
        exact z
      · exact at_ne ha hc exo_own
    · intro c hc
      rw [upd_ne (at_ne ha hc exo_own), upd_ne (ne_of_none hc hdx)]
      exact hc
    · intro c xs hc
      rw [upd_ne (at_ne ha hc exo_tup), upd_ne (ne_of_none hc hdx)]
      exact hc
end
/-- B.__init__(self, ..) -/
def tBase (K : PySem.W.Frag) (B newId initId : String) (tail : List Value) (ta : TA) : TE := fun σ H Q => ta σ H fun vs H1 =>
  ∃ (a C : Addr) (ws : List V), vs = .ref a :: ws ∧ ws.length ≤ 1000 ∧ XC K C B newId initId tail ∧ H1 a = some (exo a C none) ∧ Q .non H1
/-- self.f = e, the one field -/
def tPut (K : PySem.W.Frag) (B newId initId : String) (tail : List Value) (f : Str) (to te : TE) : TS := fun D σ H => te σ H fun y H1 => to σ H1 fun x H2 =>
  ∃ a C : Addr, x = .ref a ∧ XC K C B newId initId tail ∧ PySem.W.findIn K (.ref C) f = some none ∧ H2 a = some (exo a C none) ∧
    ∀ dx, H2 dx = none → dx ≠ a → D.nx σ (upd (upd H2 dx (exd dx [(f, y)])) a (exo a C (some dx)))
section
variable {X : Cx} {o e : Expr} {es : List Expr} {to te : TE} {ta : TA} {f : Str} {p p' p1 p2 pos : Pos} {B newId initId : String} {tail : List Value} {nB : Str}
theorem x_base {pl : Sem Bool} (U : Under B newId initId tail) (hg : Gl X nB) (hm : X.mg nB = none) (hv : bootBuiltins nB = some (.type B))
    (ty : typeOf (.type B) = pure (.type "type")) (vV : PySem.W.findCls X.K (.type B) (.type "type") "__init__" = some (.val (.builtin initId)))
    (ha : PA X (e :: es) ta)
    (hn : nB ≠ "__name__" := by decide) (hdb : (nB == ("__debug__" : Str)) = false := by decide)
    (c1 : PySem.W.handedIn (.builtin initId) = true := by decide +kernel) (c2 : Manifest.isStub B = false := by decide +kernel)
    (hc : eval (.Call (.Attribute (.Name nB p1) "__init__" p2) (e :: es) [] pos) X.env = (do
      let ov ← eval (.Name nB p1) X.env
      standAt p2.atName
      let (f, first) ← holding [ov] (getMethod ov "__init__" pl)
      callWith pos f first (backTo pos (starEach (e :: es) X.env)) (backToKw pos (keywordEach [] X.env))) := by rfl)
    (he : starEach (e :: es) X.env = (false, eval e X.env) :: starEach es X.env := by rfl) (hpl : (backTo pos (starEach es X.env)).any (·.1) = false := by rfl) :
    PE X (.Call (.Attribute (.Name nB p1) "__init__" p2) (e :: es) [] pos) (tBase X.K B newId initId tail ta) := by
  constructor
  intro pins s σ H Q I h
  refine PySem.W.methodCall_KW (ld_blt I hg hm hv ?_ hn hdb) hc
  obtain ⟨m, fr⟩ := I.fr
  refine PySem.W.method_type fr I.ok.mod.kin ty c2 vV c1 ?_
  show wpAny _ _ (callWith pos (Value.builtin initId) [] (backTo pos (starEach (e :: es) X.env)) []) _ _ _
  refine PyProof.Rows.callWith_method1 (thn (ha.run pos pins _ σ H _ (I.tok _) h) ?_) he hpl
  rintro us s1 ⟨vs, H1, I1, r1, a, C, ws, rfl, few, T, ea, q⟩
  cases r1 with
  | cons ra rw' =>
    cases ra
    refine base_init T I1 ea ?_ fun s' J => ⟨.non, H1, J, rfl, q⟩
    rw [← Paired.length rw', sizeLine_eq]
    omega
theorem x_put (ho : PE X o to) (he : PE X e te) (hs : swapsWith e (some (.Attribute o f p')) pos.line X.env = pure false := by rfl) :
    PS X (.Assign [.Attribute o f p'] e pos) (tPut X.K B newId initId tail f to te) := by
  constructor
  intro pins s σ H D I h
  refine plainObj_wpAny_Assign_Attribute (thn (he.run pins s σ H _ I h) ?_) hs
  rintro v s1 ⟨y, H1, I1, r1, q1⟩
  refine thn (ho.run pins s1 σ H1 _ I1 q1) ?_
  rintro u s2 ⟨x, H2, I2, r2, a, C, rfl, T, no, ea, q⟩
  cases r2
  exact field_new T I2 ea no r1 fun dx s' n ne J => ⟨σ, _, J, q dx n ne⟩
end
/-- C(e, ..), C's own __init__ keeping sp -/
def tNewX (C : Addr) (sp : Sp) (ta : TA) : L2.St → Hp → XK → Prop := fun σ H Q => ta σ H fun vs H1 => vs.length ≤ 1000 ∧ ∀ a, H1 a = none → sp (.ref a :: vs) (upd H1 a (exo a C none))
  (fun v H2 => v = .non ∧ ∃ (d : Addr) (fs : List (Str × V)), H2 a = some (exo a C (some d)) ∧ H2 d = some (exd d fs) ∧ H1 d = none ∧ Q (.ref C) (some d) (upd (del H2 a) d (.xd fs))) E0
section
variable {X : Cx} {e : Expr} {es : List Expr} {ta : TA} {p pos : Pos} {B newId initId : String} {tail : List Value} {x : Str} {C fI : Addr} {k : Nat} {fd : FuncData} {ps : List Str} {sp : Sp}
theorem x_new (T : XC X.K C B newId initId tail) (iC : PySem.W.findIn X.K (.ref C) "__init__" = some (some (.ref fI))) (tI : PySem.W.typeIn X.K (.ref fI) = some (.type "function"))
    (F1 : Fg X k fI fd ps sp) (z : RoomG (k + 1) X.A) (hb : BindsD X.K fd ps []) (hg : Gl X x) (hm : X.mg x = some (.ref C)) (ha : PA X (e :: es) ta)
    (hdb : (x == ("__debug__" : Str)) = false := by decide) (he : starEach (e :: es) X.env = (false, eval e X.env) :: starEach es X.env := by rfl) (hpl : (backTo pos (starEach es X.env)).any (·.1) = false := by rfl) :
    PMk X (.Call (.Name x p) (e :: es) [] pos) (tNewX C sp ta) := by
  obtain ⟨ds, hd, hb⟩ := hb
  cases hd
  intro pins s σ H Q I h
  obtain ⟨nm, q, N, bs, bm, sn, sub, ab, col, dd, k0, k1, k2, k3, k5, hC, on⟩ := T.cls
  refine wpAny_Call_Name_kw (ld_glob I hg hm ?_ hdb)
  refine PySem.W.callWith_K (h₀ := X.base) I.ok.mod.kin T.kp (thn (ha.run pos pins s σ H _ I h) ?_) he hpl
  rintro us s1 ⟨vs, H1, I1, r1, few, q1⟩
  refine ⟨I1.kIn, ?_⟩
  show wpAny _ _ (call (.ref C) us) _ _ _
  cases s1 with
  | mk hp g dr tk os =>
    have big : hp.objs.size ≤ hp.objs.size + 1 := Nat.le_succ _
    have hq := q1 (hp.objs.size + 1) (I1.hok.fresh big)
    have keep : ∀ b o, hp.get? b = some o → ((hp.push (PySem.W.kdv_tup us)).push (PySem.HandSPX.excO C hp.objs.size)).get? b = some o :=
      fun b o e => Heap.get?_push_of_some _ (Heap.get?_push_of_some _ e)
    have there : ((hp.push (PySem.W.kdv_tup us)).push (PySem.HandSPX.excO C hp.objs.size)).get? (hp.objs.size + 1) = some (PySem.HandSPX.excO C hp.objs.size) := by heap_get
    have I2 : Inv X pins σ (upd H1 (hp.objs.size + 1) (exo (hp.objs.size + 1) C none)) ⟨(hp.push (PySem.W.kdv_tup us)).push (PySem.HandSPX.excO C hp.objs.size), g, dr, tk, os⟩ :=
      I1.laid (t' := tk) (a := hp.objs.size + 1) (o := exo (hp.objs.size + 1) C none) keep big (exo_ok there)
    have r2 : Vals (V.ref (hp.objs.size + 1) :: vs) (Value.ref (hp.objs.size + 1) :: us) := .cons rfl r1
    have hl : (Value.ref (hp.objs.size + 1) :: us ++ []).length = ps.length := by
      rw [List.append_nil, ← r2.length]
      exact F1.len _ _ _ _ hq
    have hus : us.length ≤ sizeLine := by
      rw [← Paired.length r1, sizeLine_eq]
      omega
    have b := hb _ (Value.ref (hp.objs.size + 1) :: us) I2.kIn hl
    rw [List.append_nil] at b
    refine wpAny_call (PySem.HandSPX.call_own T.U.F (fun Y => T.U.has_all Y bm on) (I1.kIn _ _ hC) (PySem.W.looks_findIn I1.kIn iC) (fun self => PySem.W.bind_fn I1.kIn self tI) hus
      (codeAny_mono (F1.run _ X.stack _ _ ⟨Value.ref (hp.objs.size + 1) :: us, []⟩ _ _ _ E0 (z.make C us []) (I2.env0.make C us []) b r2 hq) ?_))
    intro r s' hr
    match r, hr with
    | .error er, hr => exact passL pins σ _ _ er s' I2 hr
    | .ok (.ret u), hr =>
      obtain ⟨v, H2, os2, bare2, un2, hok2, rv, ev, d, fs, ea, ed, hd1, q2⟩ := hr
      subst ev
      cases s' with
      | mk h2 g2 d2 t2 os' => exact ⟨rv, mk_end (raises_own T.ex T.ty) I1 big keep un2 hok2 os2 bare2 ea ed hd1 q2⟩
    | .ok .next, hr => exact False.elim hr
    | .ok .brk, hr => exact False.elim hr
    | .ok .cont, hr => exact False.elim hr
end

/-! ### calls that may raise; what is asked of a caught exception -/
section
variable {X : Cx} {k n : Nat} {f C : Addr} {fd : FuncData} {ps ks : List Str} {sp : Sp} {dvs : List V} {E : L2.St → XK} {x m : Str} {p pos apos : Pos} {e o : Expr} {es : List Expr} {ta : TE} {t : TA}
variable {pins : List (Addr × Obj)} {σ : L2.St} {H : Hp} {s s' : Shared} {Q : VK}
abbrev PsAt (X : Cx) (E : L2.St → XK) : Prop := ∀ σ, PassesAt (L2.CX X.prog X.w) X σ (E σ)
theorem raise_run {us : List Value} {vs : List V} (F : Fg X k f fd ps sp) (z : RoomG k X.A) (hb : BindsD X.K fd ps dvs) (hx : PsAt X E) (I : Inv X pins σ H s) (rv : Vals vs us)
    (h : sp (vs ++ dvs) H Q (E σ)) : wpAny (model X.prog X.w) X.A (call (.ref f) us) (EP X pins σ Q) X.xe s := by
  obtain ⟨ds, hd, hb⟩ := hb
  have r2 : Vals (vs ++ dvs) (us ++ ds) := rv.append hd
  have hl : (us ++ ds).length = ps.length := by
    rw [← r2.length]
    exact F.len _ _ _ _ h
  refine wpAny_call (codeAny_mono (F.run X.A X.stack s H ⟨us, []⟩ _ _ Q (E σ) z I.env0 (hb s us I.kIn hl) r2 h) ?_)
  intro r s' q
  match r, q with
  | .error e, q => exact hx σ pins H s e s' I q
  | .ok (.ret u), q => exact I.after q
  | .ok .next, q => exact False.elim q
  | .ok .brk, q => exact False.elim q
  | .ok .cont, q => exact False.elim q
/-- f(..), that may raise -/
def tCallX (sp : Sp) (dvs : List V) (E : L2.St → XK) (t : TA) : TE := fun σ H Q => t σ H fun vs H1 => sp (vs ++ dvs) H1 Q (E σ)
theorem s1 (F : Fg X k f fd ps sp) (z : RoomG k X.A) (hg : Gl X x) (hm : X.mg x = some (.ref f)) (hk : PySem.W.keepIn X.K (.ref f) = true) (hb : BindsD X.K fd ps dvs)
    (hx : PsAt X E) (ha : PA X (e :: es) t) (hdb : (x == ("__debug__" : Str)) = false := by decide)
    (he : starEach (e :: es) X.env = (false, eval e X.env) :: starEach es X.env := by rfl) (hpl : (backTo pos (starEach es X.env)).any (·.1) = false := by rfl) :
    PE X (.Call (.Name x p) (e :: es) [] pos) (tCallX sp dvs E t) := by
  constructor
  intro pins s σ H Q I h
  refine wpAny_Call_Name_kw (ld_glob I hg hm ?_ hdb)
  refine PySem.W.callWith_K (h₀ := X.base) I.ok.mod.kin hk (thn (ha.run pos pins s σ H _ I h) ?_) he hpl
  rintro us s1 ⟨vs, H1, I1, r, q⟩
  exact ⟨I1.kIn, raise_run F z hb hx I1 r q⟩
/-- o.m(..), that may raise -/
def tMethX (C : Addr) (nm : Str) (sp : Sp) (dvs : List V) (E : L2.St → XK) (ta : TE) (t : TA) : TE := fun σ H Q => ta σ H fun x H1 => ∃ a dx fs, x = .ref a ∧ H1 a = some (.ins C dx fs) ∧ fs.lookup nm = none ∧
  t σ H1 fun vs H2 => sp (x :: vs ++ dvs) H2 Q (E σ)
theorem sm {pl : Sem Bool} (c : Cls X.K C) (hm : Meth X.K C m f) (F : Fg X k f fd ps sp) (z : RoomG k X.A) (hb : BindsD X.K fd ps dvs) (hx : PsAt X E) (he : PE X o ta) (ha : PA X (e :: es) t)
    (hst : starEach (e :: es) X.env = (false, eval e X.env) :: starEach es X.env := by rfl) (hpl : (backTo pos (starEach es X.env)).any (·.1) = false := by rfl)
    (ht : eval (.Call (.Attribute o m apos) (e :: es) [] pos) X.env = (do
      let y ← eval o X.env
      standAt apos.atName
      let (g, a) ← holding [y] (getMethod y m pl)
      callWith pos g a (backTo pos (starEach (e :: es) X.env)) (backToKw pos (keywordEach [] X.env))) := by rfl) :
    PE X (.Call (.Attribute o m apos) (e :: es) [] pos) (tMethX C m sp dvs E ta t) := by
  constructor
  intro pins s σ H Q I h
  refine PySem.W.methodCall_KW (pl := pl) (thn (he.run pins s σ H _ I h) ?_) ht
  rintro u s1 ⟨v, H1, I1, rx, a, dx, fs, rfl, ea, l, q⟩
  cases rx
  refine getmeth_ok I1 ea c hm l ?_
  refine PySem.W.callWith_K (first := [.ref a]) (h₀ := X.base) I.ok.mod.kin hm.kp (thn (ha.run pos pins s1 σ H1 _ I1 q) ?_) hst hpl
  rintro us s2 ⟨vs, H2, I2, r, q2⟩
  exact ⟨I2.kIn, raise_run (us := .ref a :: us) (vs := .ref a :: vs) F z hb hx I2 (.cons rfl r) q2⟩
theorem sm0 {pl : Sem Bool} (c : Cls X.K C) (hm : Meth X.K C m f) (F : Fg X k f fd ps sp) (z : RoomG k X.A) (hb : BindsD X.K fd ps dvs) (hx : PsAt X E) (he : PE X o ta)
    (ht : eval (.Call (.Attribute o m apos) [] [] pos) X.env = (do
      let y ← eval o X.env
      standAt apos.atName
      let (g, a) ← holding [y] (getMethod y m pl)
      callWith pos g a (backTo pos (starEach [] X.env)) (backToKw pos (keywordEach [] X.env))) := by rfl) :
    PE X (.Call (.Attribute o m apos) [] [] pos) (tMethX C m sp dvs E ta tNil) := by
  constructor
  intro pins s σ H Q I h
  refine PySem.W.methodCall_KW (pl := pl) (thn (he.run pins s σ H _ I h) ?_) ht
  rintro u s1 ⟨v, H1, I1, rx, a, dx, fs, rfl, ea, l, q⟩
  cases rx
  refine getmeth_ok I1 ea c hm l ?_
  refine PySem.W.callWith_K0 (first := [.ref a]) I1.kIn hm.kp ?_
  exact raise_run (us := [.ref a]) (vs := [.ref a]) F z hb hx I1 (.cons rfl .nil) q
theorem i_callX {σ : L2.St} {H : Hp} {Q : VK} (h : t σ H fun vs H1 => sp (vs ++ dvs) H1 Q (E σ)) : tCallX sp dvs E t σ H Q := h
theorem i_callX0 {σ : L2.St} {H : Hp} {Q : VK} (h : t σ H fun vs H1 => sp vs H1 Q (E σ)) : tCallX sp [] E t σ H Q := by
  unfold tCallX
  simp only [List.append_nil]
  exact h
end
section
open PySem.W PySem.Calls PyProof.Rows
variable {prog : Program} {w : World} {K : PySem.W.Frag} {x D : Addr} {ox : Obj}
theorem kit_exc (T : L2.ExcC K D) : KitX K (.ref x) (.ref D) (fun h => ∃ od, InstAt h x ox D od) := by
  obtain ⟨cd, hc, _⟩ := any_some T.hd
  have at_ : ∃ o, K.lookup D = some o ∧ ∀ cls dict its n sl, o ≠ ⟨cls, dict, .seq its n, sl⟩ := by
    unfold clsIn at hc
    split at hc
    · rename_i c' d' cd' sl' ho
      exact ⟨_, ho, fun _ _ _ _ _ z => nomatch z⟩
    · cases hc
  have hf : ∀ od, findObj K D od "__class__" = some (.bind (.builtin "getset_descriptor.__get__") (.builtin "object.__class__")) :=
    fun od => findObj_dataE (by rw [hc]; rfl) T.ha T.hn T.ht
  refine ⟨fun _ _ _ ⟨_, I⟩ => I.type, ?_, ?_, ?_⟩
  · intro M h inn _
    unfold clsIn at hc
    split at hc
    · rename_i c' d' cd' sl' ho
      intro A Q E s keep q
      unfold isType loadHead
      exact wpAny_bind (wpAny_loadPart (keep _ _ (inn _ _ ho)) (wpAny_pure q))
    · cases hc
  · intro h tp dd its n sl inn htp
    rw [Bool.eq_false_iff]
    intro q
    have e : D = tp := Value.ref.inj (beq_iff_eq.mp q)
    subst e
    obtain ⟨o, ho, no⟩ := at_
    have z := (inn _ _ ho).symm.trans htp
    exact no _ _ _ _ _ (Option.some.inj z)
  · intro prog w A E Q s inn ⟨od, I⟩ q
    exact kx_classE inn I T.hg T.hk T.hs (hf od) T.hm q
end
/-- isinstance(e, c), e the caught exception at a, of the class cls, its dict d -/
def rIsX (K : PySem.W.Frag) (a : Addr) (cls : Value) (d : Option Addr) : List V → Hp → VK → Prop := fun xs H Q => ∃ (D : Addr) (c : V) (cv : Value) (b : Bool), cls = .ref D ∧ L2.ExcC K D ∧
  (d = none ∨ ∃ dd fs, d = some dd ∧ H dd = some (.xd fs)) ∧ xs = [.ref a, c] ∧ ClsV c cv ∧ PySem.W.kitOne K (.ref D) cv = some b ∧ Q (.bl b) H
/-- isinstance(e, (c1, c2, ..)) -/
def rIsXT (K : PySem.W.Frag) (a : Addr) (cls : Value) (d : Option Addr) : List V → Hp → VK → Prop := fun xs H Q => ∃ (D tp : Addr) (cs : List V) (us : List Value) (b : Bool), cls = .ref D ∧ L2.ExcC K D ∧
  (d = none ∨ ∃ dd fs, d = some dd ∧ H dd = some (.xd fs)) ∧ xs = [.ref a, .ref tp] ∧ H tp = some (.tup cs) ∧ Paired ClsV cs us ∧ PySem.W.kitAny K (.ref D) us = some b ∧ Q (.bl b) H
section
variable {X : Cx} {a : Addr} {oe : Obj} {cls : Value} {d : Option Addr} {pn : List (Addr × Obj)} {K : PySem.W.Frag}
theorem caught_at {D : Addr} {pins : List (Addr × Obj)} {σ : L2.St} {H : Hp} {s : Shared} (I : Inv (X.suite a ((a, oe) :: pn)) pins σ H s) (hz : Zc (.ref D) d oe) (hf : ∃ vs, oe.data = .fields vs)
    (hd : d = none ∨ ∃ dd fs, d = some dd ∧ H dd = some (.xd fs)) : ∃ od, PySem.W.InstAt s.heap a oe D od := by
  obtain ⟨there, _⟩ := I.pin (a, oe) (List.mem_append_left _ List.mem_cons_self)
  obtain ⟨vs, hv⟩ := hf
  obtain ⟨h1, h2⟩ := hz
  have nc : PySem.W.notCls oe = true := by
    unfold PySem.W.notCls
    rw [hv] <;> rfl
  rcases hd with rfl | ⟨dd, fs, rfl, e⟩
  · exact ⟨none, there, h1, nc, by rw [h2]; trivial⟩
  · obtain ⟨mA, hns, _⟩ : ObjOk X.prog X.w H s.heap dd (.xd fs) := I.hok dd _ e
    obtain ⟨od, ho, _⟩ := lookIn_ns hns
    exact ⟨some od, there, h1, nc, by rw [h2]; exact ho⟩
theorem k_isX (h : X.K = K) (hz : Zc cls d oe) (hf : ∃ vs, oe.data = .fields vs) : CallR (X.suite a ((a, oe) :: pn)) (.builtin "isinstance") (rIsX K a cls d) := by
  subst h
  intro pins s σ H xs us Q I r q
  obtain ⟨D, c, cv, b, rfl, T, hd, rfl, hc, kit, q⟩ := q
  obtain ⟨u1, u2, rfl, r1, r2⟩ := vals2 r
  cases r1
  have e := hc.eq r2
  subst e
  exact PySem.W.kia_one (kit_exc (ox := oe) T) I.kIn (caught_at I hz hf hd) kit (fun z => nomatch z) fun tk => ⟨.bl b, H, I.tok tk, rfl, q⟩
theorem k_isXT (h : X.K = K) (hz : Zc cls d oe) (hf : ∃ vs, oe.data = .fields vs) : CallR (X.suite a ((a, oe) :: pn)) (.builtin "isinstance") (rIsXT K a cls d) := by
  subst h
  intro pins s σ H xs us Q I r q
  obtain ⟨D, tp, cs, ws, b, rfl, T, hd, rfl, hT, hc, kit, q⟩ := q
  obtain ⟨u1, u2, rfl, r1, r2⟩ := vals2 r
  cases r1
  cases r2
  obtain ⟨_, its, rv, o, h1, h2, n, h3⟩ := (show ObjOk X.prog X.w H s.heap tp (.tup cs) from I.hok tp _ hT)
  have e3 := ClsV.all hc rv
  subst e3
  cases o
  simp only at h2 h3
  subst h2 h3
  exact PySem.W.kia_tup (kit_exc (ox := oe) T) I.kIn (caught_at I hz hf hd) h1 kit (fun z => nomatch z) fun tk => ⟨.bl b, H, I.tok tk, rfl, q⟩
end

def MethX (C : Addr) (nm : Str) (sp : Sp) (dvs : List V) (E : L2.St → XK) (t : TA) (σ : L2.St) (x : V) (H1 : Hp) (Q : VK) : Prop := ∃ a dx fs, x = .ref a ∧ H1 a = some (.ins C dx fs) ∧ fs.lookup nm = none ∧
  t σ H1 fun vs H2 => sp (x :: vs ++ dvs) H2 Q (E σ)
theorem i_methX {C : Addr} {nm : Str} {sp : Sp} {dvs : List V} {E : L2.St → XK} {ta : TE} {t : TA} {σ : L2.St} {H : Hp} {Q : VK} (h : ta σ H fun x H1 => MethX C nm sp dvs E t σ x H1 Q) : tMethX C nm sp dvs E ta t σ H Q := h
theorem i_methXR {C : Addr} {nm : Str} {sp : Sp} {E : L2.St → XK} {t : TA} {σ : L2.St} {H : Hp} {Q : VK} {a dx : Addr} {fs : List (Str × V)} (ha : H a = some (.ins C dx fs)) (hl : fs.lookup nm = none) (h : t σ H fun vs H2 => sp (.ref a :: vs) H2 Q (E σ)) : MethX C nm sp [] E t σ (.ref a) H Q := ⟨a, dx, fs, rfl, ha, hl, by simpa only [List.append_nil] using h⟩

local macro_rules | `(tactic| walk_at "g_tr") => `(tactic| first
  | with_reducible assumption
  | (with_reducible exact tr_of (by with_reducible assumption))
  | with_reducible exact tr_same
  | ((with_reducible refine tr_upd ?_); walk_at "g_tr")
  | (with_reducible exact tr_pot (by with_reducible assumption))
  | (with_reducible exact tr_ld (by with_reducible assumption))
  | ((with_reducible apply tr_kp (by with_reducible assumption) ?h); (case h => walk_at "g_tr")))
local macro_rules | `(tactic| walk_at "g_ne") => `(tactic| first
  | with_reducible assumption
  | (with_reducible exact Ne.symm (by with_reducible assumption))
  | ((with_reducible apply fr_tr ?h (by with_reducible assumption)); (case h => walk_at "g_tr"))
  | ((with_reducible apply Ne.symm (fr_tr ?h (by with_reducible assumption))); (case h => walk_at "g_tr")))
local macro_rules | `(tactic| walk_at "g_hp") => `(tactic| first
  | with_reducible assumption
  | with_reducible apply upd_same
  | ((with_reducible apply upd_nn ?h ?k); (case h => walk_at "g_ne"); (case k => walk_at "g_hp"))
  | ((with_reducible apply kp_at (by with_reducible assumption) ?h ?n); (case n => walk_at "g_ni"); (case h => walk_at "g_hp")))
local macro_rules | `(tactic| walk_at "g_ni") => `(tactic| first
  | exact not_nil
  | with_reducible assumption
  | ((with_reducible refine not_one ?_); walk_at "g_ne")
  | ((with_reducible refine not_two ?_ ?_) <;> walk_at "g_ne"))
local macro_rules | `(tactic| walk_at "g_pot") => `(tactic| first
  | with_reducible assumption
  | ((with_reducible apply pot_upd ?h ?n); (case n => walk_at "g_ne"); (case h => walk_at "g_pot"))
  | ((with_reducible apply PotAt.kp ?h (by with_reducible assumption) ?n); (case n => walk_at "g_ni"); (case h => walk_at "g_pot")))
local macro_rules | `(tactic| walk_at "g_ld") => `(tactic| first
  | with_reducible assumption
  | ((with_reducible apply ld_upd ?h ?i ?n); (case n => walk_at "g_fr"); (case i => walk_at "g_im"); (case h => walk_at "g_ld"))
  | ((with_reducible apply ld_upl ?h ?i ?n ?m); (case n => walk_at "g_hp"); (case m => walk_at "g_ne"); (case i => walk_at "g_im"); (case h => walk_at "g_ld"))
  | ((with_reducible apply ld_ins ?h ?i ?n); (case n => walk_at "g_hp"); (case i => walk_at "g_im"); (case h => walk_at "g_ld"))
  | ((with_reducible apply LD.kp ?h (by with_reducible assumption) ?i ?n); (case n => walk_at "g_ni"); (case i => walk_at "g_im"); (case h => walk_at "g_ld")))
local macro_rules | `(tactic| walk_at "g_im") => `(tactic| first
  | with_reducible assumption
  | exact imms_d2 _
  | rfl)
local macro_rules | `(tactic| walk_at "g_fx") => `(tactic| first
  | with_reducible assumption
  | with_reducible exact fx_refl
  | ((with_reducible apply fx_new ?h ?f); (case f => with_reducible assumption); (case h => walk_at "g_fx"))
  | ((with_reducible apply fx_mut ?h ?f ?g); (case f => walk_at "g_hp"); (case g => exact fun z => z); (case h => walk_at "g_fx"))
  | ((with_reducible apply fx_kp (by with_reducible assumption) ?h); (case h => walk_at "g_fx")))
local macro_rules | `(tactic| walk_at "g_st") => `(tactic| first
  | with_reducible assumption
  | ((with_reducible apply Fx.seqT ?k (by with_reducible assumption)); (case k => walk_at "g_fx"))
  | ((with_reducible apply SqT.of ?h); (case h => walk_at "g_hp")))
local macro_rules | `(tactic| walk_at "g_sq") => `(tactic| first
  | with_reducible assumption
  | ((with_reducible apply SqL.of ?h); (case h => walk_at "g_hp"))
  | ((with_reducible apply sqL_new ?h (by with_reducible assumption)); (case h => walk_at "g_sq"))
  | ((with_reducible apply sqL_kp (by with_reducible assumption) ?h ?n); (case h => walk_at "g_sq"); (case n => walk_at "g_ni")))
local macro_rules | `(tactic| walk_at "g_kp") => `(tactic| first
  | with_reducible assumption
  | with_reducible exact Kp.refl
  | with_reducible exact Kp.wide (by with_reducible assumption)
  | ((with_reducible apply Kp.trans ?k (by with_reducible assumption)); (case k => walk_at "g_kp"))
  | ((with_reducible apply Kp.trans ?k (Kp.wide (by with_reducible assumption))); (case k => walk_at "g_kp"))
  | ((with_reducible apply Kp.trans ?k (Kp.mono (by with_reducible assumption) ?m)); (case m => simp only [List.mem_cons, List.not_mem_nil, or_false, forall_eq, true_or, or_true, List.mem_singleton, implies_true]); (case k => walk_at "g_kp"))
  | ((with_reducible apply Kp.upd ?k ?h); (case h => walk_at "g_fr"); (case k => walk_at "g_kp"))
  | ((with_reducible apply Kp.upi ?k ?h ?m); (case h => walk_at "g_hp"); (case m => simp only [List.mem_cons, true_or, or_true]); (case k => walk_at "g_kp"))
  | ((with_reducible apply Kp.upm ?k ?h ?m); (case h => walk_at "g_hp"); (case m => simp only [List.mem_cons, true_or, or_true]); (case k => walk_at "g_kp")))
local macro_rules | `(tactic| walk_at "g_old") => `(tactic| first
  | with_reducible exact Old.refl
  | ((with_reducible apply old_upd ?k); (case k => walk_at "g_old"))
  | ((with_reducible apply old_kp (by with_reducible assumption) ?k); (case k => walk_at "g_old")))
local macro_rules | `(tactic| walk_at "g_fr") => `(tactic| first
  | with_reducible assumption
  | ((with_reducible apply fr_of (by with_reducible assumption) ?o); (case o => walk_at "g_old")))
local macro_rules | `(tactic| walk_at "g_at") => `(tactic| first
  | assumption
  | exact atI_last _ _
  | exact at_zero
  | rfl)
local macro_rules | `(tactic| walk_at "g_sz") => `(tactic| first
  | assumption
  | ((with_reducible apply small_sz); (try simp only [List.length_append, List.length_cons, List.length_nil]); omega))
local macro_rules | `(tactic| walk_at "g1") => `(tactic| first
  | (with_reducible refine Red.r ?_)
  | ((with_reducible apply i_var ?h ?_); (case h => exact rfl))
  | (with_reducible refine i_few (by simp only [List.length_cons, List.length_nil]; decide) ?_)
  | ((with_reducible apply i_aug ?h ?_); (case h => exact rfl))
  | ((with_reducible refine i_wipe ?e ?_); (case e => rfl))
  | ((with_reducible apply i_tyL ?h ?_); (case h => walk_at "g_sq"))
  | ((with_reducible apply i_app ?h ?g ?_); (case h => walk_at "g_hp"); (case g => walk_at "g_sz"))
  | ((with_reducible apply i_lenO ?h ?g ?_); (case h => walk_at "g_hp"); (case g => exact rfl))
  | ((with_reducible apply i_lenL ?h ?_); (case h => walk_at "g_sq"))
  | ((with_reducible apply i_lenT ?h ?_); (case h => walk_at "g_st"))
  | ((with_reducible apply i_gTup ?h ?g ?_); (case h => walk_at "g_st"); (case g => rfl))
  | ((with_reducible apply i_setL ?h ?g ?_); (case h => walk_at "g_hp"); (case g => first | (simp only [List.length_append, List.length_cons, List.length_nil]; exact ix_last _) | (simp only [List.length_cons]; exact ix_zero _) | rfl))
  | ((with_reducible apply i_revd ?h ?g); (case h => walk_at "g_sq"))
  | ((with_reducible apply i_ins0 ?h ?g ?k); (case h => walk_at "g_hp"); (case g => walk_at "g_sz"))
  | ((with_reducible apply i_ixS (by with_reducible assumption) ?k ?g ?_); (case k => walk_at "g_fx"); (case g => walk_at "g_at"))
  | ((with_reducible apply i_ixO ?h ?g ?_); (case h => walk_at "g_hp"); (case g => walk_at "g_at"))
  | ((with_reducible apply i_ixL ?h ?g ?_); (case h => walk_at "g_sq"); (case g => walk_at "g_at"))
  | ((with_reducible refine i_mod ?c ?_); (case c => omega))
  | ((with_reducible refine i_div ?c ?d ?_); (case c => omega); (case d => omega))
  | ((with_reducible refine i_dm ?c ?d ?_); (case c => omega); (case d => omega))
  | ((with_reducible apply i_listL ?h ?g); (case h => walk_at "g_sq"))
  | ((with_reducible apply i_listT ?h ?g); (case h => walk_at "g_st"))
  | ((with_reducible apply i_methR ?h ?g ?_); (case h => walk_at "g_hp"); (case g => exact rfl))
  | (walk_at "g_own")
  | ((with_reducible apply i_methWR ?h ?g ?_); (case h => walk_at "g_hp"); (case g => exact rfl))
  | ((with_reducible apply i_lens ?h ?g ?_); (case h => exact rfl); (case g => exact rfl))
  | ((with_reducible apply i_fldR ?h ?c ?n ?g ?_); (case h => walk_at "g_hp"); (case c => with_reducible assumption); (case n => with_reducible assumption); (case g => exact rfl))
  | ((with_reducible apply i_fldSR ?h ?c ?n ?g ?_); (case h => walk_at "g_hp"); (case c => with_reducible assumption); (case n => with_reducible assumption); (case g => exact fs_few (by rfl)))
  | ((with_reducible apply i_slL ?h ?_); (case h => walk_at "g_sq"))
  | ((with_reducible apply i_addL ?h ?g ?z ?_); (case h => walk_at "g_hp"); (case g => walk_at "g_hp"); (case z => (try simp only [List.length_append, List.length_cons, List.length_nil, List.length_map]); omega))
  | ((with_reducible refine i_mulI ?c ?_); (case c => first | exact Or.inl ⟨by omega, by omega⟩ | exact Or.inr ⟨by omega, by omega⟩)))
local macro_rules | `(tactic| walk_at "gr") => `(tactic| first | ((walk_at "g1"); (walk_at "gr")) | skip)
local macro_rules | `(tactic| walk_at "gs") => `(tactic| (walk_at "gr"))

/-! ### an exception's class with its own __init__, looked at in the kernel -/
def slotN (newId : String) (l : List (Option Value)) : Bool := decide (l = [l.getD 0 none, l.getD 1 none, l.getD 2 none, l.getD 3 none, some (.builtin newId), l.getD 5 none])
def mroX (C : Addr) (tail : List Value) (l : List Value) : Bool := decide (l = .ref C :: l.tail) && refsOn tail l.tail
def objX (C : Addr) (tail : List Value) (newId : String) (o : Obj) : Bool :=
  decide (o.cls = .type "type") && (slotN newId o.slots.toList && (match o.data with
    | .cls cd => mroX C tail cd.mro && (!cd.hasDel && cd.hasDict)
    | _ => false))
def excB (K : PySem.W.Frag) (C : Addr) (tail : List Value) (newId : String) : Bool :=
  match K.lookup C with
  | some o => objX C tail newId o
  | none => false
theorem objX_ok {C : Addr} {tail : List Value} {newId : String} {o : Obj} (h : objX C tail newId o = true) :
    ∃ nm q N bs bm sn sub ab col dd k0 k1 k2 k3 k5, o = excClassObj nm q C N bs bm true sn sub ab col dd k0 k1 k2 k3 k5 newId ∧ refsOn tail bm = true := by
  obtain ⟨oc, od, dt, osl⟩ := o
  obtain ⟨h1, h2⟩ := Bool.and_eq_true_iff.mp h
  obtain ⟨h3, h4⟩ := Bool.and_eq_true_iff.mp h2
  have e1 : oc = .type "type" := of_decide_eq_true h1
  obtain ⟨l⟩ := osl
  have e3 : l = [l.getD 0 none, l.getD 1 none, l.getD 2 none, l.getD 3 none, some (.builtin newId), l.getD 5 none] := of_decide_eq_true h3
  cases dt with
  | cls cd =>
    obtain ⟨nm, bs, mro, ns, qn, hd, sn, sub, ab, col, del⟩ := cd
    obtain ⟨h5, h6⟩ := Bool.and_eq_true_iff.mp (show (mroX C tail mro && (!del && hd)) = true from h4)
    obtain ⟨h7, h8⟩ := Bool.and_eq_true_iff.mp h6
    obtain ⟨h9, h10⟩ := Bool.and_eq_true_iff.mp h5
    have e9 : mro = .ref C :: mro.tail := of_decide_eq_true h9
    have e8 : hd = true := h8
    have e7 : del = false := by
      cases del
      · rfl
      · cases h7
    refine ⟨nm, qn, ns, bs, mro.tail, sn, sub, ab, col, od, l.getD 0 none, l.getD 1 none, l.getD 2 none, l.getD 3 none, l.getD 5 none, ?_, h10⟩
    rw [e1, e7, e8]
    show Obj.mk _ _ (Data.cls (ClassData.mk nm bs mro ns qn true sn sub ab col false)) (Array.mk l) = Obj.mk _ _ (Data.cls (ClassData.mk nm bs (.ref C :: mro.tail) ns qn true sn sub ab col false)) (Array.mk [l.getD 0 none, l.getD 1 none, l.getD 2 none, l.getD 3 none, some (.builtin newId), l.getD 5 none])
    rw [← e9, ← e3]
  | _ => cases h4
theorem excB_ok {K : PySem.W.Frag} {C : Addr} {tail : List Value} {newId : String} (h : excB K C tail newId = true) :
    ∃ nm q N bs bm sn sub ab col dd k0 k1 k2 k3 k5, K.lookup C = some (excClassObj nm q C N bs bm true sn sub ab col dd k0 k1 k2 k3 k5 newId) ∧ refsOn tail bm = true := by
  unfold excB at h
  cases e : K.lookup C with
  | none =>
    rw [e] at h
    cases h
  | some o =>
    rw [e] at h
    obtain ⟨nm, q, N, bs, bm, sn, sub, ab, col, dd, k0, k1, k2, k3, k5, e2, r⟩ := objX_ok h
    exact ⟨nm, q, N, bs, bm, sn, sub, ab, col, dd, k0, k1, k2, k3, k5, congrArg some e2, r⟩
def foundV (v : Value) : Option PySem.W.CFound → Bool
  | some (.val w) => decide (w = v)
  | _ => false
def foundB (n : String) (o : Option PySem.W.CFound) : Bool := foundV (.builtin n) o
theorem foundB_ok {n : String} {o : Option PySem.W.CFound} (h : foundB n o = true) : o = some (.val (.builtin n)) := by
  cases o with
  | none => cases h
  | some f =>
    cases f with
    | val w =>
      have e : w = .builtin n := of_decide_eq_true h
      rw [e]
    | _ => cases h

/-! ### ForkError.__init__(self, ..), ForkError an own class; a class whose __init__ may raise -/
section
open PyProof PyProof.Rows PySem.Calls PySem.Spec
theorem under_ValueError : Under "ValueError" "ValueError.__new__" "ValueError.__init__" [.type "ValueError", .type "Exception", .type "BaseException", .type "object"] :=
  ⟨PySem.F.excBase_ValueError, fun _ => by kernel_rfl, by decide +kernel, rfl⟩
variable {X : Cx} {o e : Expr} {es : List Expr} {to te : TE} {ta t : TA} {f : Str} {p p' p1 p2 pos : Pos} {B newId initId : String} {tail : List Value} {nB x : Str} {F C : Addr}
theorem x_baseC {pl : Sem Bool} (U : Under B newId initId tail) (hg : Gl X nB) (hm : X.mg nB = some (.ref F)) (gt : PySem.W.specialIn X.K (.ref F) "__getattribute__" = some (some (.builtin "type.__getattribute__")))
    (rd : PySem.W.readsIn X.K F (.type "type") = true) (vV : PySem.W.findCls X.K (.ref F) (.type "type") "__init__" = some (.val (.builtin initId)))
    (ha : PA X (e :: es) ta)
    (hdb : (nB == ("__debug__" : Str)) = false := by decide)
    (c1 : PySem.W.handedIn (.builtin initId) = true := by decide +kernel)
    (hc : eval (.Call (.Attribute (.Name nB p1) "__init__" p2) (e :: es) [] pos) X.env = (do
      let ov ← eval (.Name nB p1) X.env
      standAt p2.atName
      let (f, first) ← holding [ov] (getMethod ov "__init__" pl)
      callWith pos f first (backTo pos (starEach (e :: es) X.env)) (backToKw pos (keywordEach [] X.env))) := by rfl)
    (he : starEach (e :: es) X.env = (false, eval e X.env) :: starEach es X.env := by rfl) (hpl : (backTo pos (starEach es X.env)).any (·.1) = false := by rfl) :
    PE X (.Call (.Attribute (.Name nB p1) "__init__" p2) (e :: es) [] pos) (tBase X.K B newId initId tail ta) := by
  constructor
  intro pins s σ H Q I h
  refine PySem.W.methodCall_KW (ld_glob I hg hm ?_ hdb) hc
  refine PySem.W.method_cls I.kIn gt (PySem.W.cls_value I.kIn rd vV c1 ?_)
  show wpAny _ _ (callWith pos (Value.builtin initId) [] (backTo pos (starEach (e :: es) X.env)) []) _ _ _
  refine PyProof.Rows.callWith_method1 (thn (ha.run pos pins _ σ H _ (I.tok _) h) ?_) he hpl
  rintro us s1 ⟨vs, H1, I1, r1, a, C, ws, rfl, few, T, ea, q⟩
  cases r1 with
  | cons ra rw' =>
    cases ra
    refine base_init T I1 ea ?_ fun s' J => ⟨.non, H1, J, rfl, q⟩
    rw [← Paired.length rw', sizeLine_eq]
    omega
variable {k : Nat} {fI : Addr} {fd : FuncData} {ps : List Str} {sp : Sp} {dvs : List V} {E : L2.St → XK} {pins : List (Addr × Obj)} {σ : L2.St} {H : Hp} {s : Shared} {Q : VK}
theorem runMX {vs : Addr → List V} (M : Mk X.K C fI) (F : Fg X k fI fd ps sp)
    (z : RoomG (k + 1) X.A) (hx : PsAt X E) (I : Inv X pins σ H s) {us0 : List Value} {kw : List (Str × Value)}
    {us : Addr → List Value} (hb : ∀ (s : Shared) (x : Addr), X.K.In s.heap → BindsTo s fd ⟨.ref x :: us0, kw⟩ (ps.zip (us x)))
    (h : Made C sp (E σ) H Q vs)
    (rv : ∀ x, Vals (vs x) (us x)) :
    wpAny (model X.prog X.w) X.A (call (.ref C) us0 kw) (EP X pins σ Q) X.xe s := by
  have hq := h (s.heap.objs.size + 1) s.heap.objs.size (I.hok.fresh (Nat.le_succ _)) (I.hok.fresh (Nat.le_refl _))
    (Nat.ne_of_lt (Nat.lt_succ_self _))
  have I2 := Inv.made (C := C) I
  refine wpAny_call (make_map (f := fI) I.kIn M.makes M.init (beq_iff_eq.mp M.fn) (codeAny_mono
    (F.run _ X.stack _ _ ⟨.ref (s.heap.objs.size + 1) :: us0, kw⟩ _ _ _ (E σ) (z.make C us0 kw)
      (I2.env0.make C us0 kw) (hb _ _ I2.kIn) (rv _) hq) ?_))
  intro r s' q
  match r, q with
  | .error e, q => exact hx σ pins _ _ e s' I2 q
  | .ok (.ret u), q =>
    obtain ⟨v, H', I3, rv, ev, q3⟩ := I2.after q
    subst ev
    exact ⟨rv, ⟨V.ref (s.heap.objs.size + 1), H', I3, rfl, q3⟩⟩
  | .ok .next, q => exact False.elim q
  | .ok .brk, q => exact False.elim q
  | .ok .cont, q => exact False.elim q
def tMkX (C : Addr) (sp : Sp) (dvs : List V) (E : L2.St → XK) (t : TA) : TE := fun σ H Q => t σ H fun vs H1 =>
  Made C sp (E σ) H1 Q fun x => .ref x :: (vs ++ dvs)
theorem mkX (M : Mk X.K C fI) (F : Fg X k fI fd ps sp) (z : RoomG (k + 1) X.A) (hg : Gl X x)
    (hm : X.mg x = some (.ref C)) (hb : BindsD X.K fd ps dvs) (hx : PsAt X E) (ha : PA X (e :: es) t)
    (hdb : (x == ("__debug__" : Str)) = false := by decide)
    (he : starEach (e :: es) X.env = (false, eval e X.env) :: starEach es X.env := by rfl)
    (hpl : (backTo pos (starEach es X.env)).any (·.1) = false := by rfl) :
    PE X (.Call (.Name x p) (e :: es) [] pos) (tMkX C sp dvs E t) := by
  obtain ⟨ds, hd, hb⟩ := hb
  constructor
  intro pins s σ H Q I h
  refine wpAny_Call_Name_kw (ld_glob I hg hm ?_ hdb)
  refine PySem.W.callWith_K (h₀ := X.base) I.ok.mod.kin M.kp ?_ he hpl
  refine thn (ha.run pos pins s σ H _ I h) ?_
  intro us s1 y
  obtain ⟨vs, H1, I1, r, q⟩ := y
  refine ⟨I1.kIn, ?_⟩
  obtain ⟨x0, hl⟩ := made_len F I1 q
  refine runMX (us := fun x => .ref x :: (us ++ ds)) M F z hx I1 ?_ q (fun x => .cons rfl (r.append hd))
  intro s2 x2 kin
  refine hb s2 (.ref x2 :: us) kin ?_
  rw [← hl]
  have e1 := r.length
  have e2 := hd.length
  simp only [List.length_cons, List.length_append, List.cons_append] at *
  omega
theorem i_mkX {t : TA} (h : t σ H fun vs H1 => Made C sp (E σ) H1 Q fun x => .ref x :: (vs ++ dvs)) : tMkX C sp dvs E t σ H Q := h
end

/-! ### a dict of the top: texts by texts -/
section
open PySem.Calls PyProof.Rows PySem.Spec PySem.W
structure TabD (K : PySem.W.Frag) (w : World) (a : Addr) (kvs : List (Str × Str)) : Prop where
  d : ∃ es n, KDict K w a es n ∧ es.toList.map He.keyOf = He.keysIn w.params (kvs.map (·.1))
  v : ∀ q ∈ kvs, ∃ u, nsIn K a q.1 = some (some u) ∧ RelV (.str q.2) u
theorem tabD_ok {K : PySem.W.Frag} {w : World} {a : Addr} {kvs : List (Str × Str)} (h : He.dicW K a = some (He.keysIn w.params (kvs.map (·.1)))) (hv : He.valsB K a (kvs.map fun q => (q.1, He.Dv.str q.2)) = true) : TabD K w a kvs := by
  obtain ⟨es, n, D⟩ := He.dicW_ok h
  refine ⟨⟨es, n, D, ?_⟩, fun q hq => ?_⟩
  · unfold He.dicW at h
    rw [D.at_] at h
    simp only [D.low] at h
    exact Option.some.inj h
  · exact He.valsB_ok hv (q := (q.1, He.Dv.str q.2)) (List.mem_map.mpr ⟨q, hq, rfl⟩)
theorem keys_miss {P : Params} {z : Str} : ∀ {l : List DictEntry} {ks : List Str}, l.map He.keyOf = He.keysIn P ks → z ∉ ks → l.find? (·.key.isStr z) = none ∧ l.any (·.refKey) = false
  | [], _, _, _ => ⟨rfl, rfl⟩
  | e :: r, [], h, _ => by cases h
  | e :: r, k :: ks, h, n => by
    have h1 : He.keyOf e :: r.map He.keyOf = some (k, PyData.keyHash P k) :: He.keysIn P ks := h
    injection h1 with h2 h3
    obtain ⟨i1, i2⟩ := keys_miss (z := z) h3 fun m => n (List.mem_cons_of_mem _ m)
    unfold He.keyOf at h2
    split at h2
    · rename_i x t q
      have h4 := Option.some.inj h2
      obtain ⟨h5, h6⟩ := Prod.mk.inj h4
      have nz : x ≠ z := fun e => n (by rw [← e, h5]; exact List.mem_cons_self)
      refine ⟨?_, ?_⟩
      · rw [List.find?_cons_of_neg, i1]
        rw [q]
        show ¬ ((x == z) = true)
        rw [beq_iff_eq]
        exact nz
      · rw [List.any_cons, i2, Bool.or_false]
        unfold DictEntry.refKey
        rw [q]
    · cases h2
theorem TabD.miss {K : PySem.W.Frag} {w : World} {a : Addr} {kvs : List (Str × Str)} (T : TabD K w a kvs) {z : Str} (h : z ∉ kvs.map (·.1)) : nsIn K a z = some none := by
  obtain ⟨es, n, D, hk⟩ := T.d
  obtain ⟨h1, h2⟩ := keys_miss hk h
  unfold nsIn
  rw [D.at_]
  simp only [h1, h2]
  rfl
def rNotInT (a : Addr) (kvs : List (Str × Str)) : R2 := fun x y H Q => ∃ z : Str, x = .str z ∧ y = .ref a ∧ Q (.bl (decide (z ∉ kvs.map (·.1)))) H
def rInT (a : Addr) (kvs : List (Str × Str)) : R2 := fun x y H Q => ∃ z : Str, x = .str z ∧ y = .ref a ∧ Q (.bl (decide (z ∈ kvs.map (·.1)))) H
def rItemT (a : Addr) (kvs : List (Str × Str)) : R2 := fun x y H Q => ∃ z s : Str, x = .ref a ∧ y = .str z ∧ (z, s) ∈ kvs ∧ Q (.str s) H
variable {X : Cx} {a : Addr} {kvs : List (Str × Str)}
theorem op_notInT (T : TabD X.K X.w a kvs) : OpR X (compareOp .NotIn) (rNotInT a kvs) := by
  obtain ⟨es, n, D, hk⟩ := id T.d
  intro pins s σ H x y v u Q I rx ry h
  obtain ⟨z, ex, ey, q⟩ := h
  by_cases c : z ∈ kvs.map (·.1)
  · obtain ⟨p, hp, e⟩ := List.mem_map.mp c
    obtain ⟨u0, hu, _⟩ := T.v p hp
    have e : p.1 = z := e
    rw [e] at hu
    exact op_notIn_kd D pins s σ H x y v u Q I rx ry ⟨z, _, ex, ey, hu, by rw [decide_eq_false (fun f => f c)] at q; exact q⟩
  · exact op_notIn_kd D pins s σ H x y v u Q I rx ry ⟨z, _, ex, ey, T.miss c, by rw [decide_eq_true c] at q; exact q⟩
theorem op_inT (T : TabD X.K X.w a kvs) : OpR X (compareOp .In) (rInT a kvs) := by
  obtain ⟨es, n, D, hk⟩ := id T.d
  intro pins s σ H x y v u Q I rx ry h
  obtain ⟨z, ex, ey, q⟩ := h
  by_cases c : z ∈ kvs.map (·.1)
  · obtain ⟨p, hp, e⟩ := List.mem_map.mp c
    obtain ⟨u0, hu, _⟩ := T.v p hp
    have e : p.1 = z := e
    rw [e] at hu
    exact op_in_kd D pins s σ H x y v u Q I rx ry ⟨z, _, ex, ey, hu, by rw [decide_eq_true c] at q; exact q⟩
  · exact op_in_kd D pins s σ H x y v u Q I rx ry ⟨z, _, ex, ey, T.miss c, by rw [decide_eq_false c] at q; exact q⟩
theorem op_itemT (T : TabD X.K X.w a kvs) : OpR X getItem (rItemT a kvs) := by
  obtain ⟨es, n, D, hk⟩ := id T.d
  intro pins s σ H x y v u Q I rx ry h
  obtain ⟨z, t, ex, ey, m, q⟩ := h
  obtain ⟨u0, hu, r⟩ := T.v _ m
  exact op_item_kd D pins s σ H x y v u Q I rx ry ⟨z, u0, _, ex, ey, hu, r, q⟩
theorem ix_itemT (T : TabD X.K X.w a kvs) : IxR X (rItemT a kvs) := by
  obtain ⟨es, n, D, hk⟩ := id T.d
  intro value slice pins s σ H x y v u Q I rx ry h hs
  obtain ⟨z, t, ex, ey, m, q⟩ := h
  obtain ⟨u0, hu, r⟩ := T.v _ m
  exact ix_kdict value slice pins s σ H x y v u Q I rx ry ⟨a, z, _, ex, ey, ⟨es, n, u0, D.at_, D.lit, hu, r⟩, q⟩ hs
end

/-! ### a, *rest = a tuple or a list -/
section
open PySem.Calls PySem.Spec PyProof.Rows PySem.W
section
variable {prog : Program} {w : World} {A : Around} {E : Value → Shared → Prop} {s : Shared}
theorem star_T {l : Addr} {items : Array Value} {i : Nat} {Q : List Value → Shared → Prop} (hl : PyProof.Rows.IsTup s.heap l items) (hh : A.handled = none) (hi : i ≤ items.size) (hz : items.size ≤ 16384)
    (h : ∀ h' tk, Heap.ExtBut s.heap.objs.size s.heap h' → Q (items.toList.take i ++ [.ref h'.objs.size]) { s with heap := h'.push (seqObj "list" (items.toList.drop i).toArray 0), toks := tk }) : wpAny (model prog w) A (unpackItems (.ref l) (i + 1) (some i)) Q E s := by
  have hlt : l ≠ s.heap.objs.size := by obtain ⟨o, ho, _⟩ := hl; exact Nat.ne_of_lt (Heap.lt_size ho)
  unfold unpackItems
  refine wpAny_bind ?_
  unfold notIterableAtAll
  refine wpAny_bind (wpAny_specialOf hl.typeIs slot_tuple_iter.lookup ?_)
  refine wpAny_pure ?_
  simp only [Bool.false_eq_true, if_false]
  refine wpAny_bind (wpAny_holding (iter_tuple hl ?_))
  refine wpAny_bind (wpAny_holding (draw_tuple hlt i 0 _ _ ⟨_, Heap.get?_push_size _ rfl, rfl, rfl⟩ (hl.push _) (by omega) fun h₁ hit₁ hs₁ => ?_))
  have hl₁ : PyProof.Rows.IsTup h₁ l items := (hl.push _).extBut hs₁.extBut hlt
  rw [Nat.zero_add] at hit₁
  have hit₁' := hit₁
  obtain ⟨oi, hoi, _⟩ := hit₁'
  have hl₁' := hl₁
  obtain ⟨ol, hol, _⟩ := hl₁'
  rw [List.drop_zero]
  have hfl : (items.toList.take i).length = i := by rw [List.length_take, Array.length_toList]; omega
  rw [if_neg (show ¬ ((items.toList.take i).length < i) by rw [hfl]; omega)]
  refine wpAny_bind (wpAny_holding (kun_collect (s := { s with heap := h₁ }) (T := "tuple_iterator") (.inr (.inr (.inr rfl))) (Walks.tuple (A := A.in1) hh s.heap.objs.size l hlt items) (fun j u st => st.1.typeIs) (k := i) (by omega) ⟨hit₁, hl₁⟩ (Heap.lt_size hoi) (Heap.lt_size hol) (fun h₂ tk hk => ?_) (by rw [sizeLine_eq]; omega)))
  have hrl : (items.toList.drop i).length = items.size - i := by rw [List.length_drop, Array.length_toList]
  have hmid : (items.toList.drop i).length - (i + 1 - 1 - i) = (items.toList.drop i).length := by omega
  show wpAny _ _ (if (items.toList.drop i).length < i + 1 - 1 - i then _ else _) _ _ _
  rw [if_neg (by omega)]
  show wpAny _ _ (newList ((items.toList.drop i).take ((items.toList.drop i).length - (i + 1 - 1 - i))) >>= fun d => pure (items.toList.take i ++ [d] ++ (items.toList.drop i).drop ((items.toList.drop i).length - (i + 1 - 1 - i)))) _ _ _
  rw [hmid, List.take_length, List.drop_length]
  have he : Heap.ExtBut s.heap.objs.size s.heap h₂ := fun b o hb e => hk b o hb (hs₁.extBut b o hb (Heap.get?_push_of_some _ e))
  refine wpAny_bind (wpAny_newList ?_ (by rw [hrl, sizeLine_eq]; omega))
  refine wpAny_pure ?_
  rw [List.append_nil]
  exact h h₂ tk he
theorem star_L {l : Addr} {items : Array Value} {i : Nat} {Q : List Value → Shared → Prop} (hl : s.heap.IsList l items) (hh : A.handled = none) (hi : i ≤ items.size) (hz : items.size ≤ 16384)
    (h : ∀ h' tk, Heap.ExtBut s.heap.objs.size s.heap h' → Q (items.toList.take i ++ [.ref h'.objs.size]) { s with heap := h'.push (seqObj "list" (items.toList.drop i).toArray 0), toks := tk }) : wpAny (model prog w) A (unpackItems (.ref l) (i + 1) (some i)) Q E s := by
  have hlt : l ≠ s.heap.objs.size := by obtain ⟨o, ho, _⟩ := hl; exact Nat.ne_of_lt (Heap.lt_size ho)
  unfold unpackItems
  refine wpAny_bind ?_
  unfold notIterableAtAll
  refine wpAny_bind (wpAny_specialOf hl.typeIs slot_list_iter.lookup ?_)
  refine wpAny_pure ?_
  simp only [Bool.false_eq_true, if_false]
  refine wpAny_bind (wpAny_holding (wpAny_pyIter_list hl ?_))
  refine wpAny_bind (wpAny_holding (kun_draw hlt i 0 _ _ ⟨_, Heap.get?_push_size _ rfl, rfl, rfl⟩ (hl.push _) (by omega) fun h₁ hit₁ hs₁ => ?_))
  have hl₁ : h₁.IsList l items := (hl.push _).extBut hs₁.extBut hlt
  rw [Nat.zero_add] at hit₁
  have hit₁' := hit₁
  obtain ⟨oi, hoi, _⟩ := hit₁'
  have hl₁' := hl₁
  obtain ⟨ol, hol, _⟩ := hl₁'
  rw [List.drop_zero]
  have hfl : (items.toList.take i).length = i := by rw [List.length_take, Array.length_toList]; omega
  rw [if_neg (show ¬ ((items.toList.take i).length < i) by rw [hfl]; omega)]
  refine wpAny_bind (wpAny_holding (kun_collect (s := { s with heap := h₁ }) (T := "list_iterator") (.inr (.inr (.inl rfl))) (Walks.list (A := A.in1) hh s.heap.objs.size l hlt items) (fun j u st => st.1.typeIs) (k := i) (by omega) ⟨hit₁, hl₁⟩ (Heap.lt_size hoi) (Heap.lt_size hol) (fun h₂ tk hk => ?_) (by rw [sizeLine_eq]; omega)))
  have hrl : (items.toList.drop i).length = items.size - i := by rw [List.length_drop, Array.length_toList]
  have hmid : (items.toList.drop i).length - (i + 1 - 1 - i) = (items.toList.drop i).length := by omega
  show wpAny _ _ (if (items.toList.drop i).length < i + 1 - 1 - i then _ else _) _ _ _
  rw [if_neg (by omega)]
  show wpAny _ _ (newList ((items.toList.drop i).take ((items.toList.drop i).length - (i + 1 - 1 - i))) >>= fun d => pure (items.toList.take i ++ [d] ++ (items.toList.drop i).drop ((items.toList.drop i).length - (i + 1 - 1 - i)))) _ _ _
  rw [hmid, List.take_length, List.drop_length]
  have he : Heap.ExtBut s.heap.objs.size s.heap h₂ := fun b o hb e => hk b o hb (hs₁.extBut b o hb (Heap.get?_push_of_some _ e))
  refine wpAny_bind (wpAny_newList ?_ (by rw [hrl, sizeLine_eq]; omega))
  refine wpAny_pure ?_
  rw [List.append_nil]
  exact h h₂ tk he
end
variable {X : Cx} {pos : Pos}
def gStar1 (K : PySem.W.Frag) (t : TGs) : TG := fun v σ H Q => ∃ (a : Addr) (x : V) (xs : List V), v = .ref a ∧ (SqT K H a (x :: xs) ∨ SqL K H a (x :: xs)) ∧ xs.length ≤ 16000 ∧ ∀ p, Fr H p → t [x, .ref p] σ (upd H p (.lst xs)) Q
theorem pgs_star {e : Expr} {es : List Expr} {p : Pos} {t : TG} {u : TGs} (h1 : PG X e t) (h2 : PGs X es u)
    (hs : (assignEach (.Starred e p :: es) X.env).map (·.2) = assign e X.env :: (assignEach es X.env).map (·.2) := by rfl) : PGs X (.Starred e p :: es) (gCons t u) := by
  refine ⟨fun pins s σ H vs us Q I r h => ?_⟩
  obtain ⟨v, vr, e1, h⟩ := h
  subst e1
  cases r with
  | cons r rr =>
    rw [hs]
    refine assignInOrder_cons (thn (h1.run pins s σ H _ _ _ I r h) fun _ s1 ⟨σ1, H1, I1, q1⟩ => ?_)
    exact h2.run pins s1 σ1 H1 _ _ Q I1 rr q1
theorem pg_star1 {es : List Expr} {k : Nat} {t : TGs} (hc : X.calm = true) (h : PGs X es t)
    (hn : (assignEach es X.env).length = 2 := by rfl) (hst : (assignEach es X.env).findIdx? (·.1) = some 1 := by rfl) : PG X (.Tuple es k pos) (gStar1 X.K t) := by
  refine ⟨fun pins s σ H v u Q I r hw => ?_⟩
  obtain ⟨a, x, xs, e1, hq, hl, hw⟩ := hw
  subst e1
  cases r
  rw [PyProof.Rows.assign_Tuple]
  refine wpAny_bind (wpAny_standAt ?_)
  unfold unpack
  rw [hn, hst]
  have fin : ∀ (its : List Value) (h' : Heap) (tk : Nat), Vals (x :: xs) its → Heap.ExtBut s.heap.objs.size s.heap h' → wpAny (model X.prog X.w) X.A (assignInOrder ((assignEach es X.env).map (·.2)) (its.toArray.toList.take 1 ++ [.ref h'.objs.size])) (fun _ s' => ∃ σ' H', Inv X pins σ' H' s' ∧ Q σ' H') X.xe { s with heap := h'.push (seqObj "list" (its.toArray.toList.drop 1).toArray 0), toks := tk } := by
    intro its h' tk rv hx
    cases rv with
    | @cons _ y _ ys r rr =>
    have I1 : Inv X pins σ H { s with heap := h', toks := tk } := I.kept fun b o e => hx b o (Nat.ne_of_lt (Heap.lt_size e)) e
    have hlen : xs.length ≤ sizeLine := by rw [sizeLine_eq]; omega
    have I2 : Inv X pins σ (upd H h'.objs.size (.lst xs)) { s with heap := h'.push (seqObj "list" ys.toArray 0), toks := tk } :=
      I1.laid (t' := tk) (fun b u e => Heap.get?_push_of_some _ e) (Nat.le_refl _) (show ObjOk X.prog X.w _ _ _ (.lst xs) from ⟨hlen, ys, 0, rr, Heap.get?_push_size _ rfl⟩)
    refine h.run pins _ σ _ [x, .ref h'.objs.size] _ Q I2 ?_ (hw _ ⟨I1.hok.fresh (Nat.le_refl _)⟩)
    exact .cons r (.cons rfl .nil)
  rcases hq with hq | hq
  · obtain ⟨its, rv, ht, hz⟩ := I.tuple hq
    have hsz := rv.length
    rw [List.length_cons] at hsz
    refine wpAny_bind (wpAny_holding (star_T (i := 1) ht (I.ok.hd hc) (by simp; omega) (by simp; omega) fun h' tk hx => ?_))
    exact fin its h' tk rv hx
  · obtain ⟨its, rv, ht, hz⟩ := I.list hq
    have hsz := rv.length
    rw [List.length_cons] at hsz
    refine wpAny_bind (wpAny_holding (star_L (i := 1) ht.isList (I.ok.hd hc) (by simp; omega) (by simp; omega) fun h' tk hx => ?_))
    exact fin its h' tk rv hx
theorem k_gstar {K : PySem.W.Frag} {es : List Expr} {k : Nat} {t : TGs} (hK : X.K = K) (hc : X.calm = true) (h : PGs X es t)
    (hn : (assignEach es X.env).length = 2 := by rfl) (hst : (assignEach es X.env).findIdx? (·.1) = some 1 := by rfl) : PG X (.Tuple es k pos) (gStar1 K t) := hK ▸ pg_star1 hc h hn hst
theorem i_star {K : PySem.W.Frag} {a : Addr} {x : V} {xs : List V} {t : TGs} {σ : L2.St} {H : Hp} {Q : L2.St → Hp → Prop} (hq : SqT K H a (x :: xs) ∨ SqL K H a (x :: xs)) (hl : xs.length ≤ 16000) (h : ∀ p, Fr H p → t [x, .ref p] σ (upd H p (.lst xs)) Q) : gStar1 K t (.ref a) σ H Q := ⟨a, x, xs, rfl, hq, hl, h⟩
end

/-! ### zip over two of any kind (list, tuple, text), the pairs unpacked -/
section
open PySem.Calls PyProof.Rows PySem.Spec PyProof PySem.W
inductive ZKd
  | lst
  | tup
  | txt
def signs (z : Str) : List V := z.cps.toList.map fun c => V.str ⟨#[c]⟩
def SqX (K : PySem.W.Frag) : ZKd → Hp → V → List V → Prop
  | .lst, H, x, xs => ∃ a, x = .ref a ∧ SqL K H a xs
  | .tup, H, x, xs => ∃ a, x = .ref a ∧ SqT K H a xs
  | .txt, _, x, xs => ∃ z, x = .str z ∧ xs = signs z
/-- the iterator of u at it, behind i of it -/
def StX' (k : ZKd) (h : Heap) (it : Addr) (u : Value) (i : Nat) : Prop := match k with
  | .lst => ∃ a, u = .ref a ∧ h.IsListIter it a i
  | .tup => ∃ a, u = .ref a ∧ h.IsTupleIter it a i
  | .txt => ∃ z t, u = .str z t ∧ h.IsStrIter it (strIterType z) z t i
theorem StX'.at {k : ZKd} {h g : Heap} {it : Addr} {u : Value} {i : Nat} (q : StX' k h it u i) (e : ∀ o, h.get? it = some o → g.get? it = some o) : StX' k g it u i := by
  cases k with
  | lst => obtain ⟨a, e1, q⟩ := q; exact ⟨a, e1, Heap.IsListIter.at q e⟩
  | tup => obtain ⟨a, e1, q⟩ := q; exact ⟨a, e1, Heap.IsTupleIter.at q e⟩
  | txt => obtain ⟨z, t, e1, o, ho, r⟩ := q; exact ⟨z, t, e1, o, e o ho, r⟩
theorem StX'.obj {k : ZKd} {h : Heap} {it : Addr} {u : Value} {i : Nat} (q : StX' k h it u i) : ∃ o, h.get? it = some o ∧ ∀ v, o.data ≠ .cell v := by
  cases k with
  | lst =>
    obtain ⟨a, _, o, e, _, d⟩ := q
    exact ⟨o, e, fun v e => by rw [d] at e; cases e⟩
  | tup =>
    obtain ⟨a, _, o, e, _, d⟩ := q
    exact ⟨o, e, fun v e => by rw [d] at e; cases e⟩
  | txt =>
    obtain ⟨z, t, _, o, e, _, d⟩ := q
    exact ⟨o, e, fun v e => by rw [d] at e; cases e⟩
/-- where u lies -/
def adrs : Value → List Addr
  | .ref a => [a]
  | _ => []
/-- an iterator's draws, by what the view has -/
theorem srcX {X : Cx} {pins : List (Addr × Obj)} {σ : L2.St} {H : Hp} {s : Shared} {A : Around} {k : ZKd} {x : V} {xs : List V} {u : Value} {it : Addr} (I : Inv X pins σ H s) (hh : A.handled = none) (q : SqX X.K k H x xs) (r : RelV x u) (ne : it ∉ adrs u) :
    ∃ (P : Nat → Value → Prop) (St : Nat → Heap → Prop), Draws X.prog X.w A it (it :: adrs u) xs.length P St ∧ (∀ i, StX' k s.heap it u i → St i s.heap) ∧ (∀ i h, St i h → StX' k h it u i) ∧ ∀ i v y, P i v → xs[i]? = some y → RelV y v := by
  cases k with
  | lst =>
    obtain ⟨a, rfl, hq⟩ := q
    cases (show u = Value.ref a from r)
    obtain ⟨its, rv, p, _⟩ := I.list hq
    have ne' : a ≠ it := fun e => ne (by rw [← e]; exact List.mem_cons_self)
    refine ⟨fun i v => its.toArray[i]? = some v, fun i h => h.IsListIter it a i ∧ h.IsList a its.toArray, by have D := Draws.list (prog := X.prog) (w := X.w) hh it a ne' its.toArray; rw [List.size_toArray, ← rv.length] at D; exact D, fun i st => ?_, fun i h st => ⟨a, rfl, st.1⟩, fun i v y hv hy => ?_⟩
    · obtain ⟨a', e, st⟩ := st
      cases e
      exact ⟨st, p.isList⟩
    · obtain ⟨v', hv', rr⟩ := rv.get hy
      have hv : its.toArray[i]? = some v := hv
      rw [List.getElem?_toArray, hv'] at hv
      cases hv
      exact rr
  | tup =>
    obtain ⟨a, rfl, hq⟩ := q
    cases (show u = Value.ref a from r)
    obtain ⟨its, rv, p, _⟩ := I.tuple hq
    have ne' : a ≠ it := fun e => ne (by rw [← e]; exact List.mem_cons_self)
    refine ⟨fun i v => its.toArray[i]? = some v, fun i h => h.IsTupleIter it a i ∧ h.IsTuple a its.toArray, by have D := Draws.tuple (prog := X.prog) (w := X.w) hh it a ne' its.toArray; rw [List.size_toArray, ← rv.length] at D; exact D, fun i st => ?_, fun i h st => ⟨a, rfl, st.1⟩, fun i v y hv hy => ?_⟩
    · obtain ⟨a', e, st⟩ := st
      cases e
      exact ⟨st, p⟩
    · obtain ⟨v', hv', rr⟩ := rv.get hy
      have hv : its.toArray[i]? = some v := hv
      rw [List.getElem?_toArray, hv'] at hv
      cases hv
      exact rr
  | txt =>
    obtain ⟨z, rfl, rfl⟩ := q
    obtain ⟨t, rfl⟩ := (show ∃ t, u = Value.str z t from r)
    refine ⟨fun i v => ∃ c u, z.cps[i]? = some c ∧ v = .str ⟨#[c]⟩ u, fun i h => h.IsStrIter it (strIterType z) z t i, by have D := Draws.text (prog := X.prog) (w := X.w) hh it z t; rw [show z.cps.size = (signs z).length by unfold signs; simp] at D; exact D, fun i st => ?_, fun i h st => ⟨z, t, rfl, st⟩, fun i v y hv hy => ?_⟩
    · obtain ⟨z', t', e, st⟩ := st
      cases e
      exact st
    · obtain ⟨c, u', hc, rfl⟩ := hv
      unfold signs at hy
      rw [List.getElem?_map, Array.getElem?_toList, hc] at hy
      cases hy
      exact ⟨u', rfl⟩
theorem SqX.inj {X : Cx} {pins : List (Addr × Obj)} {σ : L2.St} {H : Hp} {s : Shared} {k : ZKd} {x : V} {xs ys : List V} (I : Inv X pins σ H s) (q : SqX X.K k H x xs) (q' : SqX X.K k H x ys) : xs = ys := by
  cases k with
  | lst =>
    obtain ⟨a, rfl, h⟩ := q
    obtain ⟨b, e, h'⟩ := q'
    cases e
    exact I.list_inj h h'
  | tup =>
    obtain ⟨a, rfl, h⟩ := q
    obtain ⟨b, e, h'⟩ := q'
    cases e
    exact I.tuple_inj h h'
  | txt =>
    obtain ⟨a, rfl, h⟩ := q
    obtain ⟨b, e, h'⟩ := q'
    cases e
    rw [h, h']
def ItzX (K : PySem.W.Frag) (k1 k2 : ZKd) (x y : V) : It :=
  ⟨fun i H => ∃ (xs ys : List V) (u v : V), SqX K k1 H x xs ∧ SqX K k2 H y ys ∧ xs[i]? = some u ∧ ys[i]? = some v,
    fun i H v H' => ∃ T u w, v = .ref T ∧ H T = none ∧ H' = upd H T (.tup [u, w]) ∧ (∀ xs, SqX K k1 H x xs → xs[i]? = some u) ∧ ∀ ys, SqX K k2 H y ys → ys[i]? = some w,
    fun i H => ∃ xs ys : List V, SqX K k1 H x xs ∧ SqX K k2 H y ys ∧ (xs.length = i ∧ i ≤ ys.length ∨ ys.length = i ∧ i ≤ xs.length)⟩
theorem turn_zipX {P : Program} {w : World} {K : PySem.W.Frag} {elts : List Expr} {kk : Nat} {tpos : Pos} {k1 k2 : ZKd} {x y : V} {u1 u2 : Value} {z TI TO i1 i2 : Addr} (r1 : RelV x u1) (r2 : RelV y u2) (D : ZipSep2 z TI TO i1 i2 (i1 :: adrs u1) (i2 :: adrs u2)) (n1 : i1 ∉ adrs u1) (n2 : i2 ∉ adrs u2) :
    Turn P w K (.Tuple elts kk tpos) (ItzX K k1 k2 x y) [z, TI, TO, i1, i2] z (fun i h => IsZip h z TI TO .none ∧ IsTupOf2 h TI (.ref i1) (.ref i2) ∧ (∃ x y, IsTupOf2 h TO x y) ∧ StX' k1 h i1 u1 i ∧ StX' k2 h i2 u2 i) where
  mem := by simp
  obj := fun i h st c hc => by
    obtain ⟨hz, hTI, ⟨x, y, hTO⟩, h1, h2⟩ := st
    have e' : c = z ∨ c = TI ∨ c = TO ∨ c = i1 ∨ c = i2 := by simpa using hc
    rcases e' with q | q | q | q | q
    · rw [q]; exact ⟨_, hz, fun v q => nomatch q⟩
    · rw [q]; exact ⟨_, hTI, fun v q => nomatch q⟩
    · rw [q]; exact ⟨_, hTO, fun v q => nomatch q⟩
    · rw [q]; exact h1.obj
    · rw [q]; exact h2.obj
  keep := fun i h h' st k => by
    obtain ⟨hz, hTI, ⟨x, y, hTO⟩, h1, h2⟩ := st
    exact ⟨k z (by simp) _ hz, k TI (by simp) _ hTI, ⟨x, y, k TO (by simp) _ hTO⟩, h1.at fun o q => k i1 (by simp) o q, h2.at fun o q => k i2 (by simp) o q⟩
  item := by
    intro X hP hw hK hc i pins s σ H E I hf st hg
    subst hP hw hK
    obtain ⟨hz, hTI, ⟨x0, y0, hTO⟩, h1, h2⟩ := st
    obtain ⟨xs, ys, xv, yv, hqx, hqy, hx, hy⟩ := hg
    obtain ⟨P1, St1, D1, g1, b1, p1⟩ := srcX (A := X.A.in1) I (I.ok.hd hc) hqx r1 n1
    obtain ⟨P2, St2, D2, g2, b2, p2⟩ := srcX (A := X.A.in1) I (I.ok.hd hc) hqy r2 n2
    have lx := (List.getElem?_eq_some_iff.mp hx).1
    have ly := (List.getElem?_eq_some_iff.mp hy).1
    have hzl : z < s.heap.objs.size := Heap.lt_size hz
    refine wpAny_pyNext_zipD2_item D D1 D2 hz hTI hTO (g1 _ h1) (g2 _ h2) lx ly fun v1 v2 h' tk y1 y2 z' TO' d1 d2 hT hsz hk => ?_
    refine ⟨_, rfl, wpAny_letOwnedTupleGo_zip (s := { s with heap := h', toks := tk }) z' fun h'' z'' sb => ?_⟩
    have ru := p1 _ _ _ y1 hx
    have rw' := p2 _ _ _ y2 hy
    have hT2 : h''.get? s.heap.objs.size = some { cls := .type "tuple", data := .seq #[v1, v2] } := (sb.2 _ (Nat.ne_of_gt hzl)).trans hT
    have new : ObjOk X.prog X.w (upd H s.heap.objs.size (.tup [xv, yv])) h'' s.heap.objs.size (.tup [xv, yv]) :=
      ⟨by show 2 ≤ sizeLine; decide, [v1, v2], .cons ru (.cons rw' .nil), ⟨_, hT2, rfl, _, rfl⟩⟩
    have I1 : Inv X pins σ (upd H s.heap.objs.size (.tup [xv, yv])) { s with heap := h'', toks := tk } :=
      I.turnedNew (t' := tk) (ch := [z, TI, TO, i1, i2]) (fun c o hb q => (sb.2 c (fun q' => hb (by simp [q']))).trans (hk c o (fun q' => hb (by simp [q'])) (fun q' => hb (by simp [q'])) (fun q' => hb (by simp [q'])) (fun q' => hb (by simp [q'])) q)) hf (Nat.le_refl _) new
    have zi1 : i1 ≠ z := fun e => D.zf1 (by rw [← e]; exact D.mem1)
    have zi2 : i2 ≠ z := fun e => D.zf2 (by rw [← e]; exact D.mem2)
    refine ⟨.ref s.heap.objs.size, _, I1, rfl, ⟨_, xv, yv, rfl, I.hok.fresh (Nat.le_refl _), rfl, fun l hl => by rw [SqX.inj I hl hqx]; exact hx, fun l hl => by rw [SqX.inj I hl hqy]; exact hy⟩, ⟨z'', ?_, ⟨v1, v2, ?_⟩, ?_, ?_⟩, fun c hcm => ?_⟩
    · exact (sb.2 _ D.TIz).trans (hk _ _ D.TIz D.TITO D.TIi1 D.TIi2 hTI)
    · exact (sb.2 _ D.TOz).trans TO'
    · exact (b1 _ _ d1).at fun o q => (sb.2 _ zi1).trans q
    · exact (b2 _ _ d2).at fun o q => (sb.2 _ zi2).trans q
    · have hlt : c < s.heap.objs.size := by
        have e' : c = z ∨ c = TI ∨ c = TO ∨ c = i1 ∨ c = i2 := by simpa using hcm
        rcases e' with q | q | q | q | q
        · rw [q]; exact hzl
        · rw [q]; exact Heap.lt_size hTI
        · rw [q]; exact Heap.lt_size hTO
        · rw [q]; obtain ⟨_, e1, _⟩ := h1.obj; exact Heap.lt_size e1
        · rw [q]; obtain ⟨_, e2, _⟩ := h2.obj; exact Heap.lt_size e2
      rw [upd_ne (Nat.ne_of_lt hlt)]
      exact (hf c hcm).1
  done := by
    intro X hP hw hK hc i pins s σ H E I hf st hg
    subst hP hw hK
    obtain ⟨hz, hTI, ⟨x0, y0, hTO⟩, h1, h2⟩ := st
    obtain ⟨xs, ys, hqx, hqy, hend⟩ := hg
    obtain ⟨P1, St1, D1, g1, b1, p1⟩ := srcX (A := X.A.in1) I (I.ok.hd hc) hqx r1 n1
    obtain ⟨P2, St2, D2, g2, b2, p2⟩ := srcX (A := X.A.in1) I (I.ok.hd hc) hqy r2 n2
    exact wpAny_pyNext_zipD2_end D D1 D2 hz hTI hTO (g1 _ h1) (g2 _ h2) (by omega) (by omega) (by omega) fun h' tk hk => ⟨rfl, I.turnedL (t' := tk) (ch := [z, TI, TO, i1, i2]) (fun c o hb q =>
      hk c o (fun q' => hb (by simp [q'])) (fun q' => hb (by simp [q'])) (fun q' => hb (by simp [q'])) (fun q' => hb (by simp [q'])) q) hf⟩
  self := fun A i s Q E st h => wpAny_pyIter_zip st.1 h
def iZipX (K : PySem.W.Frag) (ta : TA) : TI := fun σ H R => ta σ H fun vs H1 => ∃ k1 k2 x y xs ys, vs = [x, y] ∧ SqX K k1 H1 x xs ∧ SqX K k2 H1 y ys ∧ R (ItzX K k1 k2 x y) H1
theorem beginX {X : Cx} {pins : List (Addr × Obj)} {σ : L2.St} {H : Hp} {s : Shared} {k : ZKd} {x : V} {xs : List V} {u : Value} (I : Inv X pins σ H s) (q : SqX X.K k H x xs) (r : RelV x u) :
    ∃ (o : Obj) (Hb : Heap → Prop), Begins u o Hb ∧ Hb s.heap ∧ (∀ h it, h.get? it = some o → StX' k h it u 0) ∧ ∀ b ∈ adrs u, b < s.heap.objs.size := by
  cases k with
  | lst =>
    obtain ⟨a, rfl, hq⟩ := q
    cases (show u = Value.ref a from r)
    obtain ⟨its, rv, p, _⟩ := I.list hq
    exact ⟨_, _, begins_list a its.toArray, p.isList, fun h it e => ⟨a, rfl, _, e, rfl, rfl⟩, fun b hb => by rw [List.mem_singleton.mp hb]; exact p.lt⟩
  | tup =>
    obtain ⟨a, rfl, hq⟩ := q
    cases (show u = Value.ref a from r)
    obtain ⟨its, rv, p, _⟩ := I.tuple hq
    obtain ⟨o1, ho1, _⟩ := id p
    exact ⟨_, _, begins_tuple a its.toArray, p, fun h it e => ⟨a, rfl, _, e, rfl, rfl⟩, fun b hb => by rw [List.mem_singleton.mp hb]; exact Heap.lt_size ho1⟩
  | txt =>
    obtain ⟨z, rfl, rfl⟩ := q
    obtain ⟨t, rfl⟩ := (show ∃ t, u = Value.str z t from r)
    exact ⟨_, _, begins_text z t, trivial, fun h it e => ⟨z, t, rfl, _, e, rfl, rfl⟩, fun b hb => nomatch hb⟩
theorem pi_zipX {X : Cx} {e e2 : Expr} {ta : TA} {p pos tpos : Pos} {elts : List Expr} {kk : Nat} (hg : Gl X "zip") (hm : X.mg "zip" = none) (ha : PA X [e, e2] ta)
    (hs : starEach [e, e2] X.env = (false, eval e X.env) :: starEach [e2] X.env := by rfl) (hpl : (backTo pos (starEach [e2] X.env)).any (·.1) = false := by rfl) :
    PI X (.Tuple elts kk tpos) (.Call (.Name "zip" p) [e, e2] [] pos) (iZipX X.K ta) := by
  refine ⟨fun pins s σ H R I h => ?_⟩
  refine Call_ (ld_blt I hg hm PyProof.Rows.boot_zip (PyProof.Rows.callWith_type1 (thn (ha.run pos pins s σ H _ I h) fun us s1 ⟨vs, H1, I1, r1, q1⟩ => ?_) hs hpl))
  obtain ⟨k1, k2, x, y, xs, ys, ex, hqx, hqy, q⟩ := q1
  subst ex
  cases r1 with
  | @cons _ u1 _ _ r rr =>
    cases rr with
    | @cons _ u2 _ _ r' rr =>
      cases rr
      obtain ⟨o1, B1, bg1, hb1, st1, a1⟩ := beginX I1 hqx r
      obtain ⟨o2, B2, bg2, hb2, st2, a2⟩ := beginX I1 hqy r'
      refine zip_begins2 bg1 bg2 hb1 hb2 fun h' hz hTI hTO e1 e2 hsz hk => wpAny_pyIter_zip hz ?_
      have I2 : Inv X pins σ H1 { s1 with heap := h' } := I1.kept (t' := s1.toks) hk
      have fresh5 : ∀ c, c ∈ [s1.heap.objs.size + 4, s1.heap.objs.size + 2, s1.heap.objs.size + 3, s1.heap.objs.size, s1.heap.objs.size + 1] → FpOk X pins H1 c := fun c hcm => by
        have e' : c = s1.heap.objs.size + 4 ∨ c = s1.heap.objs.size + 2 ∨ c = s1.heap.objs.size + 3 ∨ c = s1.heap.objs.size ∨ c = s1.heap.objs.size + 1 := by simpa using hcm
        have hle : s1.heap.objs.size ≤ c := by
          rcases e' with z | z | z | z | z
          · rw [z]; exact Nat.le_add_right _ _
          · rw [z]; exact Nat.le_add_right _ _
          · rw [z]; exact Nat.le_add_right _ _
          · rw [z]; exact Nat.le_refl _
          · rw [z]; exact Nat.le_add_right _ _
        exact I1.fpOk hle (I1.hok.fresh hle)
      have n1 : s1.heap.objs.size ∉ adrs u1 := fun h => absurd (a1 _ h) (Nat.lt_irrefl _)
      have n2 : s1.heap.objs.size + 1 ∉ adrs u2 := fun h => absurd (a2 _ h) (Nat.not_lt.mpr (Nat.le_succ _))
      exact ⟨s1.heap.objs.size + 4, [s1.heap.objs.size + 4, s1.heap.objs.size + 2, s1.heap.objs.size + 3, s1.heap.objs.size, s1.heap.objs.size + 1], _, _, H1, rfl, I2, turn_zipX r r' (zip_sep2 a1 a2) n1 n2, ⟨hz, hTI, ⟨_, _, hTO⟩, st1 _ _ e1, st2 _ _ e2⟩, fresh5, q⟩
end
section
variable {K : PySem.W.Frag} {σ : L2.St} {H : Hp} {Q : VK} {g : TG} {tt : TT} {te : TE} {tb : TS} {D : Ends} {ta : TA} {vn : List Nat} {k1 k2 : ZKd} {x y : V} {xs ys : List V}
theorem k_pzipX {X : Cx} {e e2 : Expr} {p pos tpos : Pos} {elts : List Expr} {kk : Nat} (hK : X.K = K) (hg : Gl X "zip") (hm : X.mg "zip" = none) (ha : PA X [e, e2] ta)
    (hs : starEach [e, e2] X.env = (false, eval e X.env) :: starEach [e2] X.env := by rfl) (hpl : (backTo pos (starEach [e2] X.env)).any (·.1) = false := by rfl) :
    PI X (.Tuple elts kk tpos) (.Call (.Name "zip" p) [e, e2] [] pos) (iZipX K ta) := hK ▸ pi_zipX hg hm ha hs hpl
/-- a for over zip of two of any kind -/
def ForZX (K : PySem.W.Frag) (ws : List V) (g : TG) (tb : TS) (D : Ends) (σ : L2.St) (H : Hp) : Prop :=
  ∃ k1 k2 x y xs ys, ws = [x, y] ∧ SqX K k1 H x xs ∧ SqX K k2 H y ys ∧ ∃ W : Nat → Nat → L2.St → Hp → Prop,
    (∃ m, W 0 m σ H) ∧ ∀ i m σ H, W i m σ H → ((ItzX K k1 k2 x y).stop i H ∧ D.nx σ H) ∨
      ((ItzX K k1 k2 x y).go i H ∧ ∃ Nx : L2.St → Hp → Prop,
        (∀ σ' H', Nx σ' H' → ∃ m', m' < m ∧ W (i + 1) m' σ' H') ∧
        ∀ v H', (ItzX K k1 k2 x y).yld i H v H' → g v σ H' fun σ2 H2 =>
          tb { D with nx := Nx, ct := Nx, bk := D.nx } σ2 H2)
theorem i_forZX (h : ta σ H fun ws H1 => ForZX K ws g tb D σ H1) : tFor (iZipX K ta) g tb D σ H := h
instance red_i_forZX  : Red (tFor (iZipX K ta) g tb D σ H) (ta σ H fun ws H1 => ForZX K ws g tb D σ H1) := ⟨i_forZX⟩
def LcZX (K : PySem.W.Frag) (ws : List V) (g : TG) (tt : TT) (te : TE) (vs : List Nat) (σ : L2.St) (H1 : Hp) (Q : VK) : Prop :=
  ∃ k1 k2 x y xs ys, ws = [x, y] ∧ SqX K k1 H1 x xs ∧ SqX K k2 H1 y ys ∧ ∀ D, H1 D = none →
    ∃ W : Nat → Nat → Hp → Prop, (∃ m, W 0 m (upd H1 D (.lst []))) ∧ ∀ i m H, W i m H →
      ((ItzX K k1 k2 x y).stop i H ∧ Q (.ref D) H) ∨ ((ItzX K k1 k2 x y).go i H ∧ ∃ Nx : Hp → Prop,
        (∀ H', Nx H' → ∃ m', m' < m ∧ W (i + 1) m' H') ∧
        ∀ v H', (ItzX K k1 k2 x y).yld i H v H' → g v (wipe σ vs) H' fun σ2 H2 => wipe σ2 vs = wipe σ vs ∧ tt σ2 H2 fun b H3 =>
          if b = true then te σ2 H3 fun y H4 => ∃ acc, H4 D = some (.lst acc) ∧ acc.length < sizeLine ∧
            Nx (upd H4 D (.lst (acc ++ [y]))) else Nx H3)
theorem i_lcZX (h : ta σ H fun ws H1 => LcZX K ws g tt te vn σ H1 Q) : tLc (iZipX K ta) g tt te vn σ H Q := h
instance red_i_lcZX  : Red (tLc (iZipX K ta) g tt te vn σ H Q) (ta σ H fun ws H1 => LcZX K ws g tt te vn σ H1 Q) := ⟨i_lcZX⟩
theorem i_eltzX (hx : SqX K k1 H x xs) (hy : SqX K k2 H y ys) (Pv : Addr → Nat → Hp → Prop)
    (h0 : ∀ D, Fr H D → Pv D 0 (upd H D (.lst [])))
    (hl : ∀ D i H', Fr H D → Pv D i H' → SqX K k1 H' x xs ∧ SqX K k2 H' y ys)
    (st : ∀ D i u v T H', Fr H D → xs[i]? = some u → ys[i]? = some v → Pv D i H' → Fr H' T →
      g (.ref T) (wipe σ vn) (upd H' T (.tup [u, v])) fun σ2 H2 =>
      wipe σ2 vn = wipe σ vn ∧ tt σ2 H2 fun b H3 => if b = true then te σ2 H3 fun y H4 =>
        ∃ acc, H4 D = some (.lst acc) ∧ acc.length < sizeLine ∧ Pv D (i + 1) (upd H4 D (.lst (acc ++ [y])))
        else Pv D (i + 1) H3)
    (hd : ∀ D H', Fr H D → Pv D (min xs.length ys.length) H' → Q (.ref D) H') : LcZX K [x, y] g tt te vn σ H Q := by
  refine ⟨k1, k2, x, y, xs, ys, rfl, hx, hy, fun D hD => ⟨fun i m H => m = min xs.length ys.length - i ∧ i ≤ min xs.length ys.length ∧ Pv D i H,
    ⟨_, rfl, Nat.zero_le _, h0 D ⟨hD⟩⟩, ?_⟩⟩
  rintro i m H ⟨rfl, hi, z⟩
  obtain ⟨qx, qy⟩ := hl D i H ⟨hD⟩ z
  by_cases c : i < min xs.length ys.length
  · have c1 : i < xs.length := by omega
    have c2 : i < ys.length := by omega
    refine .inr ⟨⟨xs, ys, _, _, qx, qy, List.getElem?_eq_getElem c1, List.getElem?_eq_getElem c2⟩, Pv D (i + 1),
      fun H' w => ⟨_, by omega, rfl, by omega, w⟩, ?_⟩
    rintro v H' ⟨T, x', y', rfl, hT, rfl, f1, f2⟩
    exact st D i x' y' T H ⟨hD⟩ (f1 xs qx) (f2 ys qy) z ⟨hT⟩
  · have e : i = min xs.length ys.length := by omega
    refine .inl ⟨⟨xs, ys, qx, qy, by omega⟩, hd D H ⟨hD⟩ (by rw [← e]; exact z)⟩
end

/-! ### a text of the top's -/
def txB (K : PySem.W.Frag) (x s : Str) : Bool := match PySem.W.nsIn K mainGlobals x with
  | some (some (.str y _)) => decide (y = s)
  | _ => false
theorem txB_ok {K : PySem.W.Frag} {x s : Str} (h : txB K x s = true) : ∃ t, PySem.W.nsIn K mainGlobals x = some (some (.str s t)) := by
  unfold txB at h
  split at h
  · rename_i y t e
    have := of_decide_eq_true h
    subst this
    exact ⟨t, e⟩
  · cases h

def top (i : Nat) : Stmt := PySem.Challenge.pw_forkthrift_k81_whole_paths_gone_alone.main.body.getD i (.Pass ⟨0, 0, 0, 0⟩)
abbrev s_wall : Stmt := top 0
abbrev s_NoProgram_init : Stmt := inClass (top 8) 0
abbrev s_is_number : Stmt := top 13
abbrev s_is_whole : Stmt := top 14
abbrev s_is_size : Stmt := top 15
abbrev s_is_run : Stmt := top 16
abbrev s_are_runs : Stmt := top 17
abbrev s_joined : Stmt := top 18
abbrev s_cut_out : Stmt := top 19
abbrev s_want_size : Stmt := top 21
abbrev s_want_number : Stmt := top 22
abbrev s_want_cell : Stmt := top 23
abbrev s_want_stretch : Stmt := top 24
abbrev s_Memory_init : Stmt := inClass (top 25) 0
abbrev s_Memory_size : Stmt := inClass (top 25) 1
abbrev s_Memory_at : Stmt := inClass (top 25) 2
abbrev s_Memory_runs : Stmt := inClass (top 25) 3
abbrev s_Memory_lay : Stmt := inClass (top 25) 4
abbrev s_Memory_put : Stmt := inClass (top 25) 5
abbrev s_Memory_fill : Stmt := inClass (top 25) 6
abbrev s_Memory_bring : Stmt := inClass (top 25) 7
abbrev s_Memory_copied : Stmt := inClass (top 25) 8
abbrev s_Memory_eq : Stmt := inClass (top 25) 9
abbrev s_Memory_len : Stmt := inClass (top 25) 10
abbrev s_Memory_repr : Stmt := inClass (top 25) 11
abbrev s_memory_of : Stmt := top 26
abbrev s_Lone_init : Stmt := inClass (top 35) 0
abbrev s_Lone_come_to : Stmt := inClass (top 35) 1
abbrev s_Lone_rest : Stmt := inClass (top 35) 2
abbrev s_Lone_is_at_fork : Stmt := inClass (top 35) 3
abbrev s_Lone_parted : Stmt := inClass (top 35) 4
abbrev s_Lone_goal_of : Stmt := inClass (top 35) 5
abbrev s_Lone_change : Stmt := inClass (top 35) 6
abbrev s_Lone_lead : Stmt := inClass (top 35) 7
abbrev s_Lone_step : Stmt := inClass (top 35) 8
abbrev s_is_path : Stmt := top 36
abbrev s_gone_alone : Stmt := top 37
abbrev s_fits : Stmt := top 40
abbrev s_is_program_row : Stmt := top 41
abbrev s_Program_init : Stmt := inClass (top 42) 0
abbrev s_Program_size : Stmt := inClass (top 42) 1
abbrev s_Program_rows : Stmt := inClass (top 42) 2
abbrev s_Program_eq : Stmt := inClass (top 42) 3
abbrev s_Program_len : Stmt := inClass (top 42) 4
abbrev s_law_pot : Stmt := top 44
abbrev s_law_take : Stmt := top 45
abbrev s_law_part : Stmt := top 47
abbrev s_law_joined : Stmt := top 48
abbrev s_law_with : Stmt := top 49
abbrev s_law_width : Stmt := top 50
abbrev s_law_cell : Stmt := top 51
abbrev s_law_much : Stmt := top 52
abbrev s_law_written : Stmt := top 53
abbrev s_law_row_drawn : Stmt := top 54
abbrev s_law_loop : Stmt := top 55
abbrev s_law_plan : Stmt := top 56
abbrev s_law_comes : Stmt := top 57
abbrev s_law_begun : Stmt := top 58
abbrev s_law_at : Stmt := top 59
abbrev s_law_led : Stmt := top 60
abbrev s_law_put_there : Stmt := top 61
abbrev s_law_does : Stmt := top 62
abbrev s_law_turn : Stmt := top 63
abbrev s_law_due : Stmt := top 64
abbrev s_law_told : Stmt := top 65
abbrev s_law_right : Stmt := top 66
abbrev s_law : Stmt := top 67
def tyNames : List String := ["NoneType", "int", "bool", "str", "list", "tuple", "dict"]
theorem kit_other {K : PySem.W.Frag} {C : Addr} (hc : PySem.W.isClsIn K C = true) (ht : PySem.W.typeIn K (.ref C) = some (.type "type")) {n : String} (h : PySem.W.subIn K (.type n) (.ref C) = some false) : PySem.W.kitOne K (.type n) (.ref C) = some false := by
  unfold PySem.W.kitOne PySem.W.kitCls
  unfold PySem.W.isClsIn at hc
  rw [if_neg (by simp)]
  simp only [hc, ht, h, beq_self_eq_true, Bool.and_self, if_true]
theorem kit_me {K : PySem.W.Frag} {C : Addr} : PySem.W.kitOne K (.ref C) (.ref C) = some true := by
  unfold PySem.W.kitOne
  rw [if_pos (by simp)]
/-- what the top leaves -/
def kv_SHAPES : List (Str × Str) := [("put", "cn"), ("move", "cc"), ("add", "cc"), ("fill", "bec"), ("from", "cc"), ("into", "cc"), ("less", "ccr"), ("same", "ccr"), ("tell", "c"), ("fork", "r"), ("fail", ""), ("done", "")]
structure Txt (w : World) (K : PySem.W.Frag) (mg : Str → Option Value) where
  a_SHAPES : Addr
  g_SHAPES : mg "SHAPES" = some (.ref a_SHAPES)
  D_SHAPES : TabD K w a_SHAPES kv_SHAPES
  c_Memory : Addr
  cl_Memory : Cls K c_Memory
  mg_Memory : mg "Memory" = some (.ref c_Memory)
  na_Memory_pairs : NoAttr K c_Memory "pairs"
  na_Memory_wide : NoAttr K c_Memory "wide"
  ic_Memory : C8.InsC K c_Memory
  ot_Memory : ∀ n ∈ tyNames, PySem.W.kitOne K (.type n) (.ref c_Memory) = some false
  ne_Memory : PySem.W.findIn K (.ref c_Memory) "__ne__" = some (some (.builtin "object.__ne__"))
  c_Lone : Addr
  cl_Lone : Cls K c_Lone
  mg_Lone : mg "Lone" = some (.ref c_Lone)
  na_Lone_all_rows : NoAttr K c_Lone "all_rows"
  na_Lone_cells : NoAttr K c_Lone "cells"
  na_Lone_next_row : NoAttr K c_Lone "next_row"
  na_Lone_numbers : NoAttr K c_Lone "numbers"
  na_Lone_rested : NoAttr K c_Lone "rested"
  c_Program : Addr
  cl_Program : Cls K c_Program
  mg_Program : mg "Program" = some (.ref c_Program)
  na_Program_own_rows : NoAttr K c_Program "own_rows"
  na_Program_own_size : NoAttr K c_Program "own_size"
  ic_Program : C8.InsC K c_Program
  ot_Program : ∀ n ∈ tyNames, PySem.W.kitOne K (.type n) (.ref c_Program) = some false
  ne_Program : PySem.W.findIn K (.ref c_Program) "__ne__" = some (some (.builtin "object.__ne__"))
  x_ForkError : Addr
  mx_ForkError : mg "ForkError" = some (.ref x_ForkError)
  ec_ForkError : L2.ExcC K x_ForkError
  et_ForkError : PySem.W.typeIn K (.ref x_ForkError) = some (.type "type")
  x_NoSize : Addr
  mx_NoSize : mg "NoSize" = some (.ref x_NoSize)
  ec_NoSize : L2.ExcC K x_NoSize
  et_NoSize : PySem.W.typeIn K (.ref x_NoSize) = some (.type "type")
  x_NoProgram : Addr
  mx_NoProgram : mg "NoProgram" = some (.ref x_NoProgram)
  ec_NoProgram : L2.ExcC K x_NoProgram
  et_NoProgram : PySem.W.typeIn K (.ref x_NoProgram) = some (.type "type")
  x_NoPath : Addr
  mx_NoPath : mg "NoPath" = some (.ref x_NoPath)
  ec_NoPath : L2.ExcC K x_NoPath
  et_NoPath : PySem.W.typeIn K (.ref x_NoPath) = some (.type "type")
  ek_NoSize : PySem.W.keepIn K (.ref x_NoSize) = true
  en_NoSize : PySem.W.excIn K x_NoSize [.type "ValueError", .type "Exception", .type "BaseException", .type "object"] "ValueError.__new__" = true
  is_NoSize_ForkError : PySem.W.subIn K (.ref x_NoSize) (.ref x_ForkError) = some true
  is_NoSize_NoSize : PySem.W.subIn K (.ref x_NoSize) (.ref x_NoSize) = some true
  is_NoSize_NoProgram : PySem.W.subIn K (.ref x_NoSize) (.ref x_NoProgram) = some false
  is_NoSize_NoPath : PySem.W.subIn K (.ref x_NoSize) (.ref x_NoPath) = some false
  ek_NoProgram : PySem.W.keepIn K (.ref x_NoProgram) = true
  is_NoProgram_ForkError : PySem.W.subIn K (.ref x_NoProgram) (.ref x_ForkError) = some true
  is_NoProgram_NoSize : PySem.W.subIn K (.ref x_NoProgram) (.ref x_NoSize) = some false
  is_NoProgram_NoProgram : PySem.W.subIn K (.ref x_NoProgram) (.ref x_NoProgram) = some true
  is_NoProgram_NoPath : PySem.W.subIn K (.ref x_NoProgram) (.ref x_NoPath) = some false
  ek_NoPath : PySem.W.keepIn K (.ref x_NoPath) = true
  en_NoPath : PySem.W.excIn K x_NoPath [.type "ValueError", .type "Exception", .type "BaseException", .type "object"] "ValueError.__new__" = true
  is_NoPath_ForkError : PySem.W.subIn K (.ref x_NoPath) (.ref x_ForkError) = some true
  is_NoPath_NoSize : PySem.W.subIn K (.ref x_NoPath) (.ref x_NoSize) = some false
  is_NoPath_NoProgram : PySem.W.subIn K (.ref x_NoPath) (.ref x_NoProgram) = some false
  is_NoPath_NoPath : PySem.W.subIn K (.ref x_NoPath) (.ref x_NoPath) = some true
  a_wall : Addr
  d_wall : FuncData
  F_wall : FunD K "_wall" "_wall" (defArgs s_wall) (defBody s_wall) (defScope s_wall) [] ([] : List (Str × V)) a_wall d_wall
  m_wall : mg "_wall" = some (.ref a_wall)
  b_wall : BindsD K d_wall ["k"] []
  a_NoProgram_init : Addr
  d_NoProgram_init : FuncData
  F_NoProgram_init : FunD K "__init__" "NoProgram.__init__" (defArgs s_NoProgram_init) (defBody s_NoProgram_init) (defScope s_NoProgram_init) [] ([] : List (Str × V)) a_NoProgram_init d_NoProgram_init
  xi_NoProgram : PySem.W.findIn K (.ref x_NoProgram) "__init__" = some (some (.ref a_NoProgram_init))
  xt_NoProgram : PySem.W.typeIn K (.ref a_NoProgram_init) = some (.type "function")
  xc_NoProgram : XC K x_NoProgram "ValueError" "ValueError.__new__" "ValueError.__init__" [.type "ValueError", .type "Exception", .type "BaseException", .type "object"]
  xn_NoProgram : PySem.W.findIn K (.ref x_NoProgram) "row" = some none
  xbg_NoProgram : PySem.W.specialIn K (.ref x_ForkError) "__getattribute__" = some (some (.builtin "type.__getattribute__"))
  xbr_NoProgram : PySem.W.readsIn K x_ForkError (.type "type") = true
  xv_NoProgram : PySem.W.findCls K (.ref x_ForkError) (.type "type") "__init__" = some (.val (.builtin "ValueError.__init__"))
  xf_NoProgram : XfC K x_NoProgram
  b_NoProgram_init : BindsD K d_NoProgram_init ["self", "row"] []
  a_is_number : Addr
  d_is_number : FuncData
  F_is_number : FunD K "is_number" "is_number" (defArgs s_is_number) (defBody s_is_number) (defScope s_is_number) [] ([] : List (Str × V)) a_is_number d_is_number
  m_is_number : mg "is_number" = some (.ref a_is_number)
  b_is_number : BindsD K d_is_number ["thing"] []
  a_is_whole : Addr
  d_is_whole : FuncData
  F_is_whole : FunD K "is_whole" "is_whole" (defArgs s_is_whole) (defBody s_is_whole) (defScope s_is_whole) [] ([] : List (Str × V)) a_is_whole d_is_whole
  m_is_whole : mg "is_whole" = some (.ref a_is_whole)
  b_is_whole : BindsD K d_is_whole ["thing", "least", "most"] []
  a_is_size : Addr
  d_is_size : FuncData
  F_is_size : FunD K "is_size" "is_size" (defArgs s_is_size) (defBody s_is_size) (defScope s_is_size) [] ([] : List (Str × V)) a_is_size d_is_size
  m_is_size : mg "is_size" = some (.ref a_is_size)
  b_is_size : BindsD K d_is_size ["thing"] []
  a_is_run : Addr
  d_is_run : FuncData
  F_is_run : FunD K "is_run" "is_run" (defArgs s_is_run) (defBody s_is_run) (defScope s_is_run) [] ([] : List (Str × V)) a_is_run d_is_run
  m_is_run : mg "is_run" = some (.ref a_is_run)
  b_is_run : BindsD K d_is_run ["thing"] []
  a_are_runs : Addr
  d_are_runs : FuncData
  F_are_runs : FunD K "are_runs" "are_runs" (defArgs s_are_runs) (defBody s_are_runs) (defScope s_are_runs) [] ([] : List (Str × V)) a_are_runs d_are_runs
  m_are_runs : mg "are_runs" = some (.ref a_are_runs)
  b_are_runs : BindsD K d_are_runs ["thing", "size"] []
  a_joined : Addr
  d_joined : FuncData
  F_joined : FunD K "joined" "joined" (defArgs s_joined) (defBody s_joined) (defScope s_joined) [] ([] : List (Str × V)) a_joined d_joined
  m_joined : mg "joined" = some (.ref a_joined)
  b_joined : BindsD K d_joined ["pairs"] []
  a_cut_out : Addr
  d_cut_out : FuncData
  F_cut_out : FunD K "cut_out" "cut_out" (defArgs s_cut_out) (defBody s_cut_out) (defScope s_cut_out) [] ([] : List (Str × V)) a_cut_out d_cut_out
  m_cut_out : mg "cut_out" = some (.ref a_cut_out)
  b_cut_out : BindsD K d_cut_out ["pairs", "begin", "end"] []
  a_want_size : Addr
  d_want_size : FuncData
  F_want_size : FunD K "want_size" "want_size" (defArgs s_want_size) (defBody s_want_size) (defScope s_want_size) [] ([] : List (Str × V)) a_want_size d_want_size
  m_want_size : mg "want_size" = some (.ref a_want_size)
  b_want_size : BindsD K d_want_size ["thing"] []
  a_want_number : Addr
  d_want_number : FuncData
  F_want_number : FunD K "want_number" "want_number" (defArgs s_want_number) (defBody s_want_number) (defScope s_want_number) [] ([] : List (Str × V)) a_want_number d_want_number
  m_want_number : mg "want_number" = some (.ref a_want_number)
  b_want_number : BindsD K d_want_number ["thing"] []
  a_want_cell : Addr
  d_want_cell : FuncData
  F_want_cell : FunD K "want_cell" "want_cell" (defArgs s_want_cell) (defBody s_want_cell) (defScope s_want_cell) [] ([] : List (Str × V)) a_want_cell d_want_cell
  m_want_cell : mg "want_cell" = some (.ref a_want_cell)
  b_want_cell : BindsD K d_want_cell ["thing", "size"] []
  a_want_stretch : Addr
  d_want_stretch : FuncData
  F_want_stretch : FunD K "want_stretch" "want_stretch" (defArgs s_want_stretch) (defBody s_want_stretch) (defScope s_want_stretch) [] ([] : List (Str × V)) a_want_stretch d_want_stretch
  m_want_stretch : mg "want_stretch" = some (.ref a_want_stretch)
  b_want_stretch : BindsD K d_want_stretch ["begin", "end", "size"] []
  a_Memory_init : Addr
  d_Memory_init : FuncData
  F_Memory_init : FunD K "__init__" "Memory.__init__" (defArgs s_Memory_init) (defBody s_Memory_init) (defScope s_Memory_init) [] ([("number", V.int 0)] : List (Str × V)) a_Memory_init d_Memory_init
  mk_Memory : Mk K c_Memory a_Memory_init
  b_Memory_init : BindsD K d_Memory_init ["self", "size", "number"] [V.int 0]
  a_Memory_size : Addr
  d_Memory_size : FuncData
  F_Memory_size : FunD K "size" "Memory.size" (defArgs s_Memory_size) (defBody s_Memory_size) (defScope s_Memory_size) [] ([] : List (Str × V)) a_Memory_size d_Memory_size
  me_Memory_size : Meth K c_Memory "size" a_Memory_size
  b_Memory_size : BindsD K d_Memory_size ["self"] []
  a_Memory_at : Addr
  d_Memory_at : FuncData
  F_Memory_at : FunD K "at" "Memory.at" (defArgs s_Memory_at) (defBody s_Memory_at) (defScope s_Memory_at) [] ([] : List (Str × V)) a_Memory_at d_Memory_at
  me_Memory_at : Meth K c_Memory "at" a_Memory_at
  b_Memory_at : BindsD K d_Memory_at ["self", "cell"] []
  a_Memory_runs : Addr
  d_Memory_runs : FuncData
  F_Memory_runs : FunD K "runs" "Memory.runs" (defArgs s_Memory_runs) (defBody s_Memory_runs) (defScope s_Memory_runs) [] ([] : List (Str × V)) a_Memory_runs d_Memory_runs
  me_Memory_runs : Meth K c_Memory "runs" a_Memory_runs
  b_Memory_runs : BindsD K d_Memory_runs ["self"] []
  a_Memory_lay : Addr
  d_Memory_lay : FuncData
  F_Memory_lay : FunD K "lay" "Memory.lay" (defArgs s_Memory_lay) (defBody s_Memory_lay) (defScope s_Memory_lay) [] ([] : List (Str × V)) a_Memory_lay d_Memory_lay
  me_Memory_lay : Meth K c_Memory "lay" a_Memory_lay
  b_Memory_lay : BindsD K d_Memory_lay ["self", "begin", "pairs", "end"] []
  a_Memory_put : Addr
  d_Memory_put : FuncData
  F_Memory_put : FunD K "put" "Memory.put" (defArgs s_Memory_put) (defBody s_Memory_put) (defScope s_Memory_put) [] ([] : List (Str × V)) a_Memory_put d_Memory_put
  me_Memory_put : Meth K c_Memory "put" a_Memory_put
  b_Memory_put : BindsD K d_Memory_put ["self", "cell", "number"] []
  a_Memory_fill : Addr
  d_Memory_fill : FuncData
  F_Memory_fill : FunD K "fill" "Memory.fill" (defArgs s_Memory_fill) (defBody s_Memory_fill) (defScope s_Memory_fill) [] ([] : List (Str × V)) a_Memory_fill d_Memory_fill
  me_Memory_fill : Meth K c_Memory "fill" a_Memory_fill
  b_Memory_fill : BindsD K d_Memory_fill ["self", "begin", "end", "number"] []
  a_Memory_bring : Addr
  d_Memory_bring : FuncData
  F_Memory_bring : FunD K "bring" "Memory.bring" (defArgs s_Memory_bring) (defBody s_Memory_bring) (defScope s_Memory_bring) [] ([("source", V.non)] : List (Str × V)) a_Memory_bring d_Memory_bring
  me_Memory_bring : Meth K c_Memory "bring" a_Memory_bring
  b_Memory_bring : BindsD K d_Memory_bring ["self", "begin", "end", "to", "source"] [V.non]
  a_Memory_copied : Addr
  d_Memory_copied : FuncData
  F_Memory_copied : FunD K "copied" "Memory.copied" (defArgs s_Memory_copied) (defBody s_Memory_copied) (defScope s_Memory_copied) [] ([] : List (Str × V)) a_Memory_copied d_Memory_copied
  me_Memory_copied : Meth K c_Memory "copied" a_Memory_copied
  b_Memory_copied : BindsD K d_Memory_copied ["self"] []
  a_Memory_eq : Addr
  d_Memory_eq : FuncData
  F_Memory_eq : FunD K "__eq__" "Memory.__eq__" (defArgs s_Memory_eq) (defBody s_Memory_eq) (defScope s_Memory_eq) [] ([] : List (Str × V)) a_Memory_eq d_Memory_eq
  me_Memory_eq : Meth K c_Memory "__eq__" a_Memory_eq
  b_Memory_eq : BindsD K d_Memory_eq ["self", "other"] []
  a_Memory_len : Addr
  d_Memory_len : FuncData
  F_Memory_len : FunD K "__len__" "Memory.__len__" (defArgs s_Memory_len) (defBody s_Memory_len) (defScope s_Memory_len) [] ([] : List (Str × V)) a_Memory_len d_Memory_len
  me_Memory_len : Meth K c_Memory "__len__" a_Memory_len
  b_Memory_len : BindsD K d_Memory_len ["self"] []
  a_Memory_repr : Addr
  d_Memory_repr : FuncData
  F_Memory_repr : FunD K "__repr__" "Memory.__repr__" (defArgs s_Memory_repr) (defBody s_Memory_repr) (defScope s_Memory_repr) [] ([] : List (Str × V)) a_Memory_repr d_Memory_repr
  me_Memory_repr : Meth K c_Memory "__repr__" a_Memory_repr
  b_Memory_repr : BindsD K d_Memory_repr ["self"] []
  a_memory_of : Addr
  d_memory_of : FuncData
  F_memory_of : FunD K "memory_of" "memory_of" (defArgs s_memory_of) (defBody s_memory_of) (defScope s_memory_of) [] ([] : List (Str × V)) a_memory_of d_memory_of
  m_memory_of : mg "memory_of" = some (.ref a_memory_of)
  b_memory_of : BindsD K d_memory_of ["runs"] []
  a_Lone_init : Addr
  d_Lone_init : FuncData
  F_Lone_init : FunD K "__init__" "Lone.__init__" (defArgs s_Lone_init) (defBody s_Lone_init) (defScope s_Lone_init) [] ([] : List (Str × V)) a_Lone_init d_Lone_init
  mk_Lone : Mk K c_Lone a_Lone_init
  b_Lone_init : BindsD K d_Lone_init ["self", "program"] []
  a_Lone_come_to : Addr
  d_Lone_come_to : FuncData
  F_Lone_come_to : FunD K "come_to" "Lone.come_to" (defArgs s_Lone_come_to) (defBody s_Lone_come_to) (defScope s_Lone_come_to) [] ([] : List (Str × V)) a_Lone_come_to d_Lone_come_to
  me_Lone_come_to : Meth K c_Lone "come_to" a_Lone_come_to
  b_Lone_come_to : BindsD K d_Lone_come_to ["self", "place"] []
  a_Lone_rest : Addr
  d_Lone_rest : FuncData
  F_Lone_rest : FunD K "rest" "Lone.rest" (defArgs s_Lone_rest) (defBody s_Lone_rest) (defScope s_Lone_rest) [] ([] : List (Str × V)) a_Lone_rest d_Lone_rest
  me_Lone_rest : Meth K c_Lone "rest" a_Lone_rest
  b_Lone_rest : BindsD K d_Lone_rest ["self", "word"] []
  a_Lone_is_at_fork : Addr
  d_Lone_is_at_fork : FuncData
  F_Lone_is_at_fork : FunD K "is_at_fork" "Lone.is_at_fork" (defArgs s_Lone_is_at_fork) (defBody s_Lone_is_at_fork) (defScope s_Lone_is_at_fork) [] ([] : List (Str × V)) a_Lone_is_at_fork d_Lone_is_at_fork
  me_Lone_is_at_fork : Meth K c_Lone "is_at_fork" a_Lone_is_at_fork
  b_Lone_is_at_fork : BindsD K d_Lone_is_at_fork ["self"] []
  a_Lone_parted : Addr
  d_Lone_parted : FuncData
  F_Lone_parted : FunD K "parted" "Lone.parted" (defArgs s_Lone_parted) (defBody s_Lone_parted) (defScope s_Lone_parted) [] ([] : List (Str × V)) a_Lone_parted d_Lone_parted
  me_Lone_parted : Meth K c_Lone "parted" a_Lone_parted
  b_Lone_parted : BindsD K d_Lone_parted ["self", "program"] []
  a_Lone_goal_of : Addr
  d_Lone_goal_of : FuncData
  F_Lone_goal_of : FunD K "goal_of" "Lone.goal_of" (defArgs s_Lone_goal_of) (defBody s_Lone_goal_of) (defScope s_Lone_goal_of) [] ([] : List (Str × V)) a_Lone_goal_of d_Lone_goal_of
  me_Lone_goal_of : Meth K c_Lone "goal_of" a_Lone_goal_of
  b_Lone_goal_of : BindsD K d_Lone_goal_of ["self", "cell"] []
  a_Lone_change : Addr
  d_Lone_change : FuncData
  F_Lone_change : FunD K "change" "Lone.change" (defArgs s_Lone_change) (defBody s_Lone_change) (defScope s_Lone_change) [] ([] : List (Str × V)) a_Lone_change d_Lone_change
  me_Lone_change : Meth K c_Lone "change" a_Lone_change
  b_Lone_change : BindsD K d_Lone_change ["self", "word", "things"] []
  a_Lone_lead : Addr
  d_Lone_lead : FuncData
  F_Lone_lead : FunD K "lead" "Lone.lead" (defArgs s_Lone_lead) (defBody s_Lone_lead) (defScope s_Lone_lead) [] ([] : List (Str × V)) a_Lone_lead d_Lone_lead
  me_Lone_lead : Meth K c_Lone "lead" a_Lone_lead
  b_Lone_lead : BindsD K d_Lone_lead ["self", "word", "things"] []
  a_Lone_step : Addr
  d_Lone_step : FuncData
  F_Lone_step : FunD K "step" "Lone.step" (defArgs s_Lone_step) (defBody s_Lone_step) (defScope s_Lone_step) [] ([] : List (Str × V)) a_Lone_step d_Lone_step
  me_Lone_step : Meth K c_Lone "step" a_Lone_step
  b_Lone_step : BindsD K d_Lone_step ["self"] []
  a_is_path : Addr
  d_is_path : FuncData
  F_is_path : FunD K "is_path" "is_path" (defArgs s_is_path) (defBody s_is_path) (defScope s_is_path) [] ([] : List (Str × V)) a_is_path d_is_path
  m_is_path : mg "is_path" = some (.ref a_is_path)
  b_is_path : BindsD K d_is_path ["thing"] []
  a_gone_alone : Addr
  d_gone_alone : FuncData
  F_gone_alone : FunD K "gone_alone" "gone_alone" (defArgs s_gone_alone) (defBody s_gone_alone) (defScope s_gone_alone) [] ([("most", V.int 1000)] : List (Str × V)) a_gone_alone d_gone_alone
  m_gone_alone : mg "gone_alone" = some (.ref a_gone_alone)
  b_gone_alone : BindsD K d_gone_alone ["program", "path", "most"] [V.int 1000]
  a_fits : Addr
  d_fits : FuncData
  F_fits : FunD K "fits" "fits" (defArgs s_fits) (defBody s_fits) (defScope s_fits) [] ([] : List (Str × V)) a_fits d_fits
  m_fits : mg "fits" = some (.ref a_fits)
  b_fits : BindsD K d_fits ["sort", "thing", "size", "many"] []
  a_is_program_row : Addr
  d_is_program_row : FuncData
  F_is_program_row : FunD K "is_program_row" "is_program_row" (defArgs s_is_program_row) (defBody s_is_program_row) (defScope s_is_program_row) [] ([] : List (Str × V)) a_is_program_row d_is_program_row
  m_is_program_row : mg "is_program_row" = some (.ref a_is_program_row)
  b_is_program_row : BindsD K d_is_program_row ["thing", "size", "many"] []
  a_Program_init : Addr
  d_Program_init : FuncData
  F_Program_init : FunD K "__init__" "Program.__init__" (defArgs s_Program_init) (defBody s_Program_init) (defScope s_Program_init) [] ([] : List (Str × V)) a_Program_init d_Program_init
  mk_Program : Mk K c_Program a_Program_init
  b_Program_init : BindsD K d_Program_init ["self", "size", "rows"] []
  a_Program_size : Addr
  d_Program_size : FuncData
  F_Program_size : FunD K "size" "Program.size" (defArgs s_Program_size) (defBody s_Program_size) (defScope s_Program_size) [] ([] : List (Str × V)) a_Program_size d_Program_size
  me_Program_size : Meth K c_Program "size" a_Program_size
  b_Program_size : BindsD K d_Program_size ["self"] []
  a_Program_rows : Addr
  d_Program_rows : FuncData
  F_Program_rows : FunD K "rows" "Program.rows" (defArgs s_Program_rows) (defBody s_Program_rows) (defScope s_Program_rows) [] ([] : List (Str × V)) a_Program_rows d_Program_rows
  me_Program_rows : Meth K c_Program "rows" a_Program_rows
  b_Program_rows : BindsD K d_Program_rows ["self"] []
  a_Program_eq : Addr
  d_Program_eq : FuncData
  F_Program_eq : FunD K "__eq__" "Program.__eq__" (defArgs s_Program_eq) (defBody s_Program_eq) (defScope s_Program_eq) [] ([] : List (Str × V)) a_Program_eq d_Program_eq
  me_Program_eq : Meth K c_Program "__eq__" a_Program_eq
  b_Program_eq : BindsD K d_Program_eq ["self", "other"] []
  a_Program_len : Addr
  d_Program_len : FuncData
  F_Program_len : FunD K "__len__" "Program.__len__" (defArgs s_Program_len) (defBody s_Program_len) (defScope s_Program_len) [] ([] : List (Str × V)) a_Program_len d_Program_len
  me_Program_len : Meth K c_Program "__len__" a_Program_len
  b_Program_len : BindsD K d_Program_len ["self"] []
  a_law_pot : Addr
  d_law_pot : FuncData
  F_law_pot : FunD K "_law_pot" "_law_pot" (defArgs s_law_pot) (defBody s_law_pot) (defScope s_law_pot) [] ([] : List (Str × V)) a_law_pot d_law_pot
  m_law_pot : mg "_law_pot" = some (.ref a_law_pot)
  b_law_pot : BindsD K d_law_pot ["_law_script", "_law_k"] []
  a_law_take : Addr
  d_law_take : FuncData
  F_law_take : FunD K "_law_take" "_law_take" (defArgs s_law_take) (defBody s_law_take) (defScope s_law_take) [] ([] : List (Str × V)) a_law_take d_law_take
  m_law_take : mg "_law_take" = some (.ref a_law_take)
  b_law_take : BindsD K d_law_take ["_law_pot_here", "_law_many"] []
  a_law_part : Addr
  d_law_part : FuncData
  F_law_part : FunD K "_law_part" "_law_part" (defArgs s_law_part) (defBody s_law_part) (defScope s_law_part) [] ([] : List (Str × V)) a_law_part d_law_part
  m_law_part : mg "_law_part" = some (.ref a_law_part)
  b_law_part : BindsD K d_law_part ["_law_row", "_law_begin", "_law_stop"] []
  a_law_joined : Addr
  d_law_joined : FuncData
  F_law_joined : FunD K "_law_joined" "_law_joined" (defArgs s_law_joined) (defBody s_law_joined) (defScope s_law_joined) [] ([] : List (Str × V)) a_law_joined d_law_joined
  m_law_joined : mg "_law_joined" = some (.ref a_law_joined)
  b_law_joined : BindsD K d_law_joined ["_law_row"] []
  a_law_with : Addr
  d_law_with : FuncData
  F_law_with : FunD K "_law_with" "_law_with" (defArgs s_law_with) (defBody s_law_with) (defScope s_law_with) [] ([] : List (Str × V)) a_law_with d_law_with
  m_law_with : mg "_law_with" = some (.ref a_law_with)
  b_law_with : BindsD K d_law_with ["_law_row", "_law_begin", "_law_part_here"] []
  a_law_width : Addr
  d_law_width : FuncData
  F_law_width : FunD K "_law_width" "_law_width" (defArgs s_law_width) (defBody s_law_width) (defScope s_law_width) [] ([] : List (Str × V)) a_law_width d_law_width
  m_law_width : mg "_law_width" = some (.ref a_law_width)
  b_law_width : BindsD K d_law_width ["_law_pot_here"] []
  a_law_cell : Addr
  d_law_cell : FuncData
  F_law_cell : FunD K "_law_cell" "_law_cell" (defArgs s_law_cell) (defBody s_law_cell) (defScope s_law_cell) [] ([] : List (Str × V)) a_law_cell d_law_cell
  m_law_cell : mg "_law_cell" = some (.ref a_law_cell)
  b_law_cell : BindsD K d_law_cell ["_law_pot_here", "_law_wide"] []
  a_law_much : Addr
  d_law_much : FuncData
  F_law_much : FunD K "_law_much" "_law_much" (defArgs s_law_much) (defBody s_law_much) (defScope s_law_much) [] ([] : List (Str × V)) a_law_much d_law_much
  m_law_much : mg "_law_much" = some (.ref a_law_much)
  b_law_much : BindsD K d_law_much ["_law_pot_here", "_law_wide"] []
  a_law_written : Addr
  d_law_written : FuncData
  F_law_written : FunD K "_law_written" "_law_written" (defArgs s_law_written) (defBody s_law_written) (defScope s_law_written) [] ([] : List (Str × V)) a_law_written d_law_written
  m_law_written : mg "_law_written" = some (.ref a_law_written)
  b_law_written : BindsD K d_law_written ["_law_pot_here", "_law_wide", "_law_way"] []
  a_law_row_drawn : Addr
  d_law_row_drawn : FuncData
  F_law_row_drawn : FunD K "_law_row_drawn" "_law_row_drawn" (defArgs s_law_row_drawn) (defBody s_law_row_drawn) (defScope s_law_row_drawn) [] ([] : List (Str × V)) a_law_row_drawn d_law_row_drawn
  m_law_row_drawn : mg "_law_row_drawn" = some (.ref a_law_row_drawn)
  b_law_row_drawn : BindsD K d_law_row_drawn ["_law_pot_here", "_law_wide", "_law_here", "_law_many", "_law_forks"] []
  a_law_loop : Addr
  d_law_loop : FuncData
  F_law_loop : FunD K "_law_loop" "_law_loop" (defArgs s_law_loop) (defBody s_law_loop) (defScope s_law_loop) [] ([] : List (Str × V)) a_law_loop d_law_loop
  m_law_loop : mg "_law_loop" = some (.ref a_law_loop)
  b_law_loop : BindsD K d_law_loop ["_law_pot_here", "_law_wide"] []
  a_law_plan : Addr
  d_law_plan : FuncData
  F_law_plan : FunD K "_law_plan" "_law_plan" (defArgs s_law_plan) (defBody s_law_plan) (defScope s_law_plan) [] ([] : List (Str × V)) a_law_plan d_law_plan
  m_law_plan : mg "_law_plan" = some (.ref a_law_plan)
  b_law_plan : BindsD K d_law_plan ["_law_pot_here", "_law_high"] []
  a_law_comes : Addr
  d_law_comes : FuncData
  F_law_comes : FunD K "_law_comes" "_law_comes" (defArgs s_law_comes) (defBody s_law_comes) (defScope s_law_comes) [] ([] : List (Str × V)) a_law_comes d_law_comes
  m_law_comes : mg "_law_comes" = some (.ref a_law_comes)
  b_law_comes : BindsD K d_law_comes ["_law_rows", "_law_one", "_law_place"] []
  a_law_begun : Addr
  d_law_begun : FuncData
  F_law_begun : FunD K "_law_begun" "_law_begun" (defArgs s_law_begun) (defBody s_law_begun) (defScope s_law_begun) [] ([] : List (Str × V)) a_law_begun d_law_begun
  m_law_begun : mg "_law_begun" = some (.ref a_law_begun)
  b_law_begun : BindsD K d_law_begun ["_law_wide", "_law_rows"] []
  a_law_at : Addr
  d_law_at : FuncData
  F_law_at : FunD K "_law_at" "_law_at" (defArgs s_law_at) (defBody s_law_at) (defScope s_law_at) [] ([] : List (Str × V)) a_law_at d_law_at
  m_law_at : mg "_law_at" = some (.ref a_law_at)
  b_law_at : BindsD K d_law_at ["_law_row", "_law_cell_here"] []
  a_law_led : Addr
  d_law_led : FuncData
  F_law_led : FunD K "_law_led" "_law_led" (defArgs s_law_led) (defBody s_law_led) (defScope s_law_led) [] ([] : List (Str × V)) a_law_led d_law_led
  m_law_led : mg "_law_led" = some (.ref a_law_led)
  b_law_led : BindsD K d_law_led ["_law_row", "_law_word", "_law_things"] []
  a_law_put_there : Addr
  d_law_put_there : FuncData
  F_law_put_there : FunD K "_law_put_there" "_law_put_there" (defArgs s_law_put_there) (defBody s_law_put_there) (defScope s_law_put_there) [] ([] : List (Str × V)) a_law_put_there d_law_put_there
  m_law_put_there : mg "_law_put_there" = some (.ref a_law_put_there)
  b_law_put_there : BindsD K d_law_put_there ["_law_row", "_law_word", "_law_things"] []
  a_law_does : Addr
  d_law_does : FuncData
  F_law_does : FunD K "_law_does" "_law_does" (defArgs s_law_does) (defBody s_law_does) (defScope s_law_does) [] ([] : List (Str × V)) a_law_does d_law_does
  m_law_does : mg "_law_does" = some (.ref a_law_does)
  b_law_does : BindsD K d_law_does ["_law_one", "_law_word", "_law_things"] []
  a_law_turn : Addr
  d_law_turn : FuncData
  F_law_turn : FunD K "_law_turn" "_law_turn" (defArgs s_law_turn) (defBody s_law_turn) (defScope s_law_turn) [] ([] : List (Str × V)) a_law_turn d_law_turn
  m_law_turn : mg "_law_turn" = some (.ref a_law_turn)
  b_law_turn : BindsD K d_law_turn ["_law_rows", "_law_one"] []
  a_law_due : Addr
  d_law_due : FuncData
  F_law_due : FunD K "_law_due" "_law_due" (defArgs s_law_due) (defBody s_law_due) (defScope s_law_due) [] ([] : List (Str × V)) a_law_due d_law_due
  m_law_due : mg "_law_due" = some (.ref a_law_due)
  b_law_due : BindsD K d_law_due ["_law_wide", "_law_rows", "_law_trail"] []
  a_law_told : Addr
  d_law_told : FuncData
  F_law_told : FunD K "_law_told" "_law_told" (defArgs s_law_told) (defBody s_law_told) (defScope s_law_told) [] ([] : List (Str × V)) a_law_told d_law_told
  m_law_told : mg "_law_told" = some (.ref a_law_told)
  b_law_told : BindsD K d_law_told ["_law_plan_here", "_law_trail"] []
  a_law_right : Addr
  d_law_right : FuncData
  F_law_right : FunD K "_law_right" "_law_right" (defArgs s_law_right) (defBody s_law_right) (defScope s_law_right) [] ([] : List (Str × V)) a_law_right d_law_right
  m_law_right : mg "_law_right" = some (.ref a_law_right)
  b_law_right : BindsD K d_law_right ["_law_pot_here", "_law_plan_here", "_law_wide", "_law_rows"] []
  a_law : Addr
  d_law : FuncData
  F_law : FunD K "law" "law" (defArgs s_law) (defBody s_law) (defScope s_law) [] ([] : List (Str × V)) a_law d_law
  m_law : mg "law" = some (.ref a_law)
  b_law : BindsD K d_law ["_law_script"] []
  kb_gone_alone_0_path_program : KBnD K d_gone_alone ["program", "path", "most"] 0 ["path", "program"] (fun vs zs => gp [1, 0, 2] vs [V.int 1000] zs)
  t_DONE : Tok
  g_DONE : mg "DONE" = some (.str "done" t_DONE)
  t_ELDER : Tok
  g_ELDER : mg "ELDER" = some (.str "e" t_ELDER)
  t_FAILED : Tok
  g_FAILED : mg "FAILED" = some (.str "failed" t_FAILED)
  t_FORK : Tok
  g_FORK : mg "FORK" = some (.str "fork" t_FORK)
  t_LARGEST : Tok
  g_LARGEST : mg "LARGEST" = some (.int 1000000000000000000 t_LARGEST)
  t_MOST : Tok
  g_MOST : mg "MOST" = some (.int 1000 t_MOST)
  t_NO_ROW : Tok
  g_NO_ROW : mg "NO_ROW" = some (.int (-1) t_NO_ROW)
  t_YOUNGER : Tok
  g_YOUNGER : mg "YOUNGER" = some (.str "y" t_YOUNGER)
  n_ArithmeticError : mg "ArithmeticError" = none
  n_ValueError : mg "ValueError" = none
  n_abs : mg "abs" = none
  n_all : mg "all" = none
  n_any : mg "any" = none
  n_bool : mg "bool" = none
  n_divmod : mg "divmod" = none
  n_enumerate : mg "enumerate" = none
  n_int : mg "int" = none
  n_isinstance : mg "isinstance" = none
  n_len : mg "len" = none
  n_list : mg "list" = none
  n_max : mg "max" = none
  n_min : mg "min" = none
  n_range : mg "range" = none
  n_repr : mg "repr" = none
  n_str : mg "str" = none
  n_sum : mg "sum" = none
  n_tuple : mg "tuple" = none
  n_zip : mg "zip" = none
/-! ### the head: facts by names, the run in the kernel -/
def dd0 : He.DefD := ⟨("_wall", none), "_wall", "_wall", defArgs s_wall, defBody s_wall, defScope s_wall, [], []⟩
def dd1 : He.DefD := ⟨("NoProgram", some "__init__"), "__init__", "NoProgram.__init__", defArgs s_NoProgram_init, defBody s_NoProgram_init, defScope s_NoProgram_init, [], []⟩
def dd2 : He.DefD := ⟨("is_number", none), "is_number", "is_number", defArgs s_is_number, defBody s_is_number, defScope s_is_number, [], []⟩
def dd3 : He.DefD := ⟨("is_whole", none), "is_whole", "is_whole", defArgs s_is_whole, defBody s_is_whole, defScope s_is_whole, [], []⟩
def dd4 : He.DefD := ⟨("is_size", none), "is_size", "is_size", defArgs s_is_size, defBody s_is_size, defScope s_is_size, [], []⟩
def dd5 : He.DefD := ⟨("is_run", none), "is_run", "is_run", defArgs s_is_run, defBody s_is_run, defScope s_is_run, [], []⟩
def dd6 : He.DefD := ⟨("are_runs", none), "are_runs", "are_runs", defArgs s_are_runs, defBody s_are_runs, defScope s_are_runs, [], []⟩
def dd7 : He.DefD := ⟨("joined", none), "joined", "joined", defArgs s_joined, defBody s_joined, defScope s_joined, [], []⟩
def dd8 : He.DefD := ⟨("cut_out", none), "cut_out", "cut_out", defArgs s_cut_out, defBody s_cut_out, defScope s_cut_out, [], []⟩
def dd9 : He.DefD := ⟨("want_size", none), "want_size", "want_size", defArgs s_want_size, defBody s_want_size, defScope s_want_size, [], []⟩
def dd10 : He.DefD := ⟨("want_number", none), "want_number", "want_number", defArgs s_want_number, defBody s_want_number, defScope s_want_number, [], []⟩
def dd11 : He.DefD := ⟨("want_cell", none), "want_cell", "want_cell", defArgs s_want_cell, defBody s_want_cell, defScope s_want_cell, [], []⟩
def dd12 : He.DefD := ⟨("want_stretch", none), "want_stretch", "want_stretch", defArgs s_want_stretch, defBody s_want_stretch, defScope s_want_stretch, [], []⟩
def dd13 : He.DefD := ⟨("Memory", some "__init__"), "__init__", "Memory.__init__", defArgs s_Memory_init, defBody s_Memory_init, defScope s_Memory_init, [], [("number", .int 0)]⟩
def dd14 : He.DefD := ⟨("Memory", some "size"), "size", "Memory.size", defArgs s_Memory_size, defBody s_Memory_size, defScope s_Memory_size, [], []⟩
def dd15 : He.DefD := ⟨("Memory", some "at"), "at", "Memory.at", defArgs s_Memory_at, defBody s_Memory_at, defScope s_Memory_at, [], []⟩
def dd16 : He.DefD := ⟨("Memory", some "runs"), "runs", "Memory.runs", defArgs s_Memory_runs, defBody s_Memory_runs, defScope s_Memory_runs, [], []⟩
def dd17 : He.DefD := ⟨("Memory", some "lay"), "lay", "Memory.lay", defArgs s_Memory_lay, defBody s_Memory_lay, defScope s_Memory_lay, [], []⟩
def dd18 : He.DefD := ⟨("Memory", some "put"), "put", "Memory.put", defArgs s_Memory_put, defBody s_Memory_put, defScope s_Memory_put, [], []⟩
def dd19 : He.DefD := ⟨("Memory", some "fill"), "fill", "Memory.fill", defArgs s_Memory_fill, defBody s_Memory_fill, defScope s_Memory_fill, [], []⟩
def dd20 : He.DefD := ⟨("Memory", some "bring"), "bring", "Memory.bring", defArgs s_Memory_bring, defBody s_Memory_bring, defScope s_Memory_bring, [], [("source", .non)]⟩
def dd21 : He.DefD := ⟨("Memory", some "copied"), "copied", "Memory.copied", defArgs s_Memory_copied, defBody s_Memory_copied, defScope s_Memory_copied, [], []⟩
def dd22 : He.DefD := ⟨("Memory", some "__eq__"), "__eq__", "Memory.__eq__", defArgs s_Memory_eq, defBody s_Memory_eq, defScope s_Memory_eq, [], []⟩
def dd23 : He.DefD := ⟨("Memory", some "__len__"), "__len__", "Memory.__len__", defArgs s_Memory_len, defBody s_Memory_len, defScope s_Memory_len, [], []⟩
def dd24 : He.DefD := ⟨("Memory", some "__repr__"), "__repr__", "Memory.__repr__", defArgs s_Memory_repr, defBody s_Memory_repr, defScope s_Memory_repr, [], []⟩
def dd25 : He.DefD := ⟨("memory_of", none), "memory_of", "memory_of", defArgs s_memory_of, defBody s_memory_of, defScope s_memory_of, [], []⟩
def dd26 : He.DefD := ⟨("Lone", some "__init__"), "__init__", "Lone.__init__", defArgs s_Lone_init, defBody s_Lone_init, defScope s_Lone_init, [], []⟩
def dd27 : He.DefD := ⟨("Lone", some "come_to"), "come_to", "Lone.come_to", defArgs s_Lone_come_to, defBody s_Lone_come_to, defScope s_Lone_come_to, [], []⟩
def dd28 : He.DefD := ⟨("Lone", some "rest"), "rest", "Lone.rest", defArgs s_Lone_rest, defBody s_Lone_rest, defScope s_Lone_rest, [], []⟩
def dd29 : He.DefD := ⟨("Lone", some "is_at_fork"), "is_at_fork", "Lone.is_at_fork", defArgs s_Lone_is_at_fork, defBody s_Lone_is_at_fork, defScope s_Lone_is_at_fork, [], []⟩
def dd30 : He.DefD := ⟨("Lone", some "parted"), "parted", "Lone.parted", defArgs s_Lone_parted, defBody s_Lone_parted, defScope s_Lone_parted, [], []⟩
def dd31 : He.DefD := ⟨("Lone", some "goal_of"), "goal_of", "Lone.goal_of", defArgs s_Lone_goal_of, defBody s_Lone_goal_of, defScope s_Lone_goal_of, [], []⟩
def dd32 : He.DefD := ⟨("Lone", some "change"), "change", "Lone.change", defArgs s_Lone_change, defBody s_Lone_change, defScope s_Lone_change, [], []⟩
def dd33 : He.DefD := ⟨("Lone", some "lead"), "lead", "Lone.lead", defArgs s_Lone_lead, defBody s_Lone_lead, defScope s_Lone_lead, [], []⟩
def dd34 : He.DefD := ⟨("Lone", some "step"), "step", "Lone.step", defArgs s_Lone_step, defBody s_Lone_step, defScope s_Lone_step, [], []⟩
def dd35 : He.DefD := ⟨("is_path", none), "is_path", "is_path", defArgs s_is_path, defBody s_is_path, defScope s_is_path, [], []⟩
def dd36 : He.DefD := ⟨("gone_alone", none), "gone_alone", "gone_alone", defArgs s_gone_alone, defBody s_gone_alone, defScope s_gone_alone, [], [("most", .int 1000)]⟩
def dd37 : He.DefD := ⟨("fits", none), "fits", "fits", defArgs s_fits, defBody s_fits, defScope s_fits, [], []⟩
def dd38 : He.DefD := ⟨("is_program_row", none), "is_program_row", "is_program_row", defArgs s_is_program_row, defBody s_is_program_row, defScope s_is_program_row, [], []⟩
def dd39 : He.DefD := ⟨("Program", some "__init__"), "__init__", "Program.__init__", defArgs s_Program_init, defBody s_Program_init, defScope s_Program_init, [], []⟩
def dd40 : He.DefD := ⟨("Program", some "size"), "size", "Program.size", defArgs s_Program_size, defBody s_Program_size, defScope s_Program_size, [], []⟩
def dd41 : He.DefD := ⟨("Program", some "rows"), "rows", "Program.rows", defArgs s_Program_rows, defBody s_Program_rows, defScope s_Program_rows, [], []⟩
def dd42 : He.DefD := ⟨("Program", some "__eq__"), "__eq__", "Program.__eq__", defArgs s_Program_eq, defBody s_Program_eq, defScope s_Program_eq, [], []⟩
def dd43 : He.DefD := ⟨("Program", some "__len__"), "__len__", "Program.__len__", defArgs s_Program_len, defBody s_Program_len, defScope s_Program_len, [], []⟩
def dd44 : He.DefD := ⟨("_law_pot", none), "_law_pot", "_law_pot", defArgs s_law_pot, defBody s_law_pot, defScope s_law_pot, [], []⟩
def dd45 : He.DefD := ⟨("_law_take", none), "_law_take", "_law_take", defArgs s_law_take, defBody s_law_take, defScope s_law_take, [], []⟩
def dd46 : He.DefD := ⟨("_law_part", none), "_law_part", "_law_part", defArgs s_law_part, defBody s_law_part, defScope s_law_part, [], []⟩
def dd47 : He.DefD := ⟨("_law_joined", none), "_law_joined", "_law_joined", defArgs s_law_joined, defBody s_law_joined, defScope s_law_joined, [], []⟩
def dd48 : He.DefD := ⟨("_law_with", none), "_law_with", "_law_with", defArgs s_law_with, defBody s_law_with, defScope s_law_with, [], []⟩
def dd49 : He.DefD := ⟨("_law_width", none), "_law_width", "_law_width", defArgs s_law_width, defBody s_law_width, defScope s_law_width, [], []⟩
def dd50 : He.DefD := ⟨("_law_cell", none), "_law_cell", "_law_cell", defArgs s_law_cell, defBody s_law_cell, defScope s_law_cell, [], []⟩
def dd51 : He.DefD := ⟨("_law_much", none), "_law_much", "_law_much", defArgs s_law_much, defBody s_law_much, defScope s_law_much, [], []⟩
def dd52 : He.DefD := ⟨("_law_written", none), "_law_written", "_law_written", defArgs s_law_written, defBody s_law_written, defScope s_law_written, [], []⟩
def dd53 : He.DefD := ⟨("_law_row_drawn", none), "_law_row_drawn", "_law_row_drawn", defArgs s_law_row_drawn, defBody s_law_row_drawn, defScope s_law_row_drawn, [], []⟩
def dd54 : He.DefD := ⟨("_law_loop", none), "_law_loop", "_law_loop", defArgs s_law_loop, defBody s_law_loop, defScope s_law_loop, [], []⟩
def dd55 : He.DefD := ⟨("_law_plan", none), "_law_plan", "_law_plan", defArgs s_law_plan, defBody s_law_plan, defScope s_law_plan, [], []⟩
def dd56 : He.DefD := ⟨("_law_comes", none), "_law_comes", "_law_comes", defArgs s_law_comes, defBody s_law_comes, defScope s_law_comes, [], []⟩
def dd57 : He.DefD := ⟨("_law_begun", none), "_law_begun", "_law_begun", defArgs s_law_begun, defBody s_law_begun, defScope s_law_begun, [], []⟩
def dd58 : He.DefD := ⟨("_law_at", none), "_law_at", "_law_at", defArgs s_law_at, defBody s_law_at, defScope s_law_at, [], []⟩
def dd59 : He.DefD := ⟨("_law_led", none), "_law_led", "_law_led", defArgs s_law_led, defBody s_law_led, defScope s_law_led, [], []⟩
def dd60 : He.DefD := ⟨("_law_put_there", none), "_law_put_there", "_law_put_there", defArgs s_law_put_there, defBody s_law_put_there, defScope s_law_put_there, [], []⟩
def dd61 : He.DefD := ⟨("_law_does", none), "_law_does", "_law_does", defArgs s_law_does, defBody s_law_does, defScope s_law_does, [], []⟩
def dd62 : He.DefD := ⟨("_law_turn", none), "_law_turn", "_law_turn", defArgs s_law_turn, defBody s_law_turn, defScope s_law_turn, [], []⟩
def dd63 : He.DefD := ⟨("_law_due", none), "_law_due", "_law_due", defArgs s_law_due, defBody s_law_due, defScope s_law_due, [], []⟩
def dd64 : He.DefD := ⟨("_law_told", none), "_law_told", "_law_told", defArgs s_law_told, defBody s_law_told, defScope s_law_told, [], []⟩
def dd65 : He.DefD := ⟨("_law_right", none), "_law_right", "_law_right", defArgs s_law_right, defBody s_law_right, defScope s_law_right, [], []⟩
def dd66 : He.DefD := ⟨("law", none), "law", "law", defArgs s_law, defBody s_law, defScope s_law, [], []⟩
def fnH : List He.DefD := [dd0, dd1, dd2, dd3, dd4, dd5, dd6, dd7, dd8, dd9, dd10, dd11, dd12, dd13, dd14, dd15, dd16, dd17, dd18, dd19, dd20, dd21, dd22, dd23, dd24, dd25, dd26, dd27, dd28, dd29, dd30, dd31, dd32, dd33, dd34, dd35, dd36, dd37, dd38, dd39, dd40, dd41, dd42, dd43, dd44, dd45, dd46, dd47, dd48, dd49, dd50, dd51, dd52, dd53, dd54, dd55, dd56, dd57, dd58, dd59, dd60, dd61, dd62, dd63, dd64, dd65, dd66]
/-- a name of the top's, that is an object -/
def gdH (K : PySem.W.Frag) (x : Str) : Addr := match PySem.W.nsIn K mainGlobals x with
  | some (some (.ref a)) => a
  | _ => 0
def dicsH (K : PySem.W.Frag) : List (Option (List (Option (Str × Int)))) := [He.dicW K (gdH K "SHAPES")]
def dvalH (P : Params) : List (Option (List (Option (Str × Int)))) := [some (He.keysIn P (kv_SHAPES.map (·.1)))]
def gH0 (K : PySem.W.Frag) : Bool := (He.Fa.glo "_wall").ok K && ((He.Fa.glo "is_number").ok K && ((He.Fa.glo "is_whole").ok K && ((He.Fa.glo "is_size").ok K && ((He.Fa.glo "is_run").ok K && ((He.Fa.glo "are_runs").ok K && ((He.Fa.glo "joined").ok K && ((He.Fa.glo "cut_out").ok K && ((He.Fa.glo "want_size").ok K && ((He.Fa.glo "want_number").ok K && ((He.Fa.glo "want_cell").ok K && ((He.Fa.glo "want_stretch").ok K)))))))))))
def gH1 (K : PySem.W.Frag) : Bool := (He.Fa.meth "Memory" "size").ok K && ((He.Fa.meth "Memory" "at").ok K && ((He.Fa.meth "Memory" "runs").ok K && ((He.Fa.meth "Memory" "lay").ok K && ((He.Fa.meth "Memory" "put").ok K && ((He.Fa.meth "Memory" "fill").ok K && ((He.Fa.meth "Memory" "bring").ok K && ((He.Fa.meth "Memory" "copied").ok K && ((He.Fa.meth "Memory" "__eq__").ok K && ((He.Fa.meth "Memory" "__len__").ok K && ((He.Fa.meth "Memory" "__repr__").ok K && ((He.Fa.glo "memory_of").ok K)))))))))))
def gH2 (K : PySem.W.Frag) : Bool := (He.Fa.meth "Lone" "come_to").ok K && ((He.Fa.meth "Lone" "rest").ok K && ((He.Fa.meth "Lone" "is_at_fork").ok K && ((He.Fa.meth "Lone" "parted").ok K && ((He.Fa.meth "Lone" "goal_of").ok K && ((He.Fa.meth "Lone" "change").ok K && ((He.Fa.meth "Lone" "lead").ok K && ((He.Fa.meth "Lone" "step").ok K && ((He.Fa.glo "is_path").ok K && ((He.Fa.glo "gone_alone").ok K && ((He.Fa.glo "fits").ok K && ((He.Fa.glo "is_program_row").ok K)))))))))))
def gH3 (K : PySem.W.Frag) : Bool := (He.Fa.meth "Program" "size").ok K && ((He.Fa.meth "Program" "rows").ok K && ((He.Fa.meth "Program" "__eq__").ok K && ((He.Fa.meth "Program" "__len__").ok K && ((He.Fa.glo "_law_pot").ok K && ((He.Fa.glo "_law_take").ok K && ((He.Fa.glo "_law_part").ok K && ((He.Fa.glo "_law_joined").ok K && ((He.Fa.glo "_law_with").ok K && ((He.Fa.glo "_law_width").ok K && ((He.Fa.glo "_law_cell").ok K && ((He.Fa.glo "_law_much").ok K)))))))))))
def gH4 (K : PySem.W.Frag) : Bool := (He.Fa.glo "_law_written").ok K && ((He.Fa.glo "_law_row_drawn").ok K && ((He.Fa.glo "_law_loop").ok K && ((He.Fa.glo "_law_plan").ok K && ((He.Fa.glo "_law_comes").ok K && ((He.Fa.glo "_law_begun").ok K && ((He.Fa.glo "_law_at").ok K && ((He.Fa.glo "_law_led").ok K && ((He.Fa.glo "_law_put_there").ok K && ((He.Fa.glo "_law_does").ok K && ((He.Fa.glo "_law_turn").ok K && ((He.Fa.glo "_law_due").ok K)))))))))))
def gH5 (K : PySem.W.Frag) : Bool := (He.Fa.glo "_law_told").ok K && ((He.Fa.glo "_law_right").ok K && ((He.Fa.glo "law").ok K && ((He.Fa.glo "Memory").ok K && ((He.Fa.cls "Memory").ok K && ((He.Fa.mkr "Memory").ok K && ((He.Fa.noat "Memory" "pairs").ok K && ((He.Fa.noat "Memory" "wide").ok K && (He.eqO (PySem.W.findIn K (.ref (He.ga K "Memory")) "__class__") (some (some (.builtin "object.__class__"))) && (decide (PySem.W.mroIn K (He.ga K "Memory") (.type "object") = some true) && (decide (PySem.W.kitOne K (.type "NoneType") (.ref (He.ga K "Memory")) = some false) && (decide (PySem.W.kitOne K (.type "int") (.ref (He.ga K "Memory")) = some false))))))))))))
def gH6 (K : PySem.W.Frag) : Bool := decide (PySem.W.kitOne K (.type "bool") (.ref (He.ga K "Memory")) = some false) && (decide (PySem.W.kitOne K (.type "str") (.ref (He.ga K "Memory")) = some false) && (decide (PySem.W.kitOne K (.type "list") (.ref (He.ga K "Memory")) = some false) && (decide (PySem.W.kitOne K (.type "tuple") (.ref (He.ga K "Memory")) = some false) && (decide (PySem.W.kitOne K (.type "dict") (.ref (He.ga K "Memory")) = some false) && (He.eqO (PySem.W.findIn K (.ref (He.ga K "Memory")) "__ne__") (some (some (.builtin "object.__ne__"))) && ((He.Fa.glo "Lone").ok K && ((He.Fa.cls "Lone").ok K && ((He.Fa.mkr "Lone").ok K && ((He.Fa.noat "Lone" "all_rows").ok K && ((He.Fa.noat "Lone" "cells").ok K && ((He.Fa.noat "Lone" "next_row").ok K)))))))))))
def gH7 (K : PySem.W.Frag) : Bool := (He.Fa.noat "Lone" "numbers").ok K && ((He.Fa.noat "Lone" "rested").ok K && ((He.Fa.glo "Program").ok K && ((He.Fa.cls "Program").ok K && ((He.Fa.mkr "Program").ok K && ((He.Fa.noat "Program" "own_rows").ok K && ((He.Fa.noat "Program" "own_size").ok K && (He.eqO (PySem.W.findIn K (.ref (He.ga K "Program")) "__class__") (some (some (.builtin "object.__class__"))) && (decide (PySem.W.mroIn K (He.ga K "Program") (.type "object") = some true) && (decide (PySem.W.kitOne K (.type "NoneType") (.ref (He.ga K "Program")) = some false) && (decide (PySem.W.kitOne K (.type "int") (.ref (He.ga K "Program")) = some false) && (decide (PySem.W.kitOne K (.type "bool") (.ref (He.ga K "Program")) = some false))))))))))))
def gH8 (K : PySem.W.Frag) : Bool := decide (PySem.W.kitOne K (.type "str") (.ref (He.ga K "Program")) = some false) && (decide (PySem.W.kitOne K (.type "list") (.ref (He.ga K "Program")) = some false) && (decide (PySem.W.kitOne K (.type "tuple") (.ref (He.ga K "Program")) = some false) && (decide (PySem.W.kitOne K (.type "dict") (.ref (He.ga K "Program")) = some false) && (He.eqO (PySem.W.findIn K (.ref (He.ga K "Program")) "__ne__") (some (some (.builtin "object.__ne__"))) && (He.eqO (PySem.W.specialIn K (.builtin "object.__class__") "__get__") (some (some (.builtin "getset_descriptor.__get__"))) && (decide (PySem.W.takesIn K (.builtin "object.__class__") = some true) && ((He.Fa.glo "ForkError").ok K && (He.eqO (PySem.W.findIn K (.ref (He.ga K "ForkError")) "__getattribute__") (some (some (.builtin "BaseException.__getattribute__"))) && (He.eqO (PySem.W.findIn K (.ref (He.ga K "ForkError")) "__getattr__") (some none) && (decide (PySem.W.subIn K (.ref (He.ga K "ForkError")) (.type "BaseException") = some true) && (PySem.W.hasDictIn K (He.ga K "ForkError"))))))))))))
def gH9 (K : PySem.W.Frag) : Bool := He.eqO (PySem.W.findIn K (.ref (He.ga K "ForkError")) "__class__") (some (some (.builtin "object.__class__"))) && (decide (PySem.W.mroIn K (He.ga K "ForkError") (.type "object") = some true) && (decide (PySem.W.typeIn K (.ref (He.ga K "ForkError")) = some (.type "type")) && ((He.Fa.glo "NoSize").ok K && (He.eqO (PySem.W.findIn K (.ref (He.ga K "NoSize")) "__getattribute__") (some (some (.builtin "BaseException.__getattribute__"))) && (He.eqO (PySem.W.findIn K (.ref (He.ga K "NoSize")) "__getattr__") (some none) && (decide (PySem.W.subIn K (.ref (He.ga K "NoSize")) (.type "BaseException") = some true) && (PySem.W.hasDictIn K (He.ga K "NoSize") && (He.eqO (PySem.W.findIn K (.ref (He.ga K "NoSize")) "__class__") (some (some (.builtin "object.__class__"))) && (decide (PySem.W.mroIn K (He.ga K "NoSize") (.type "object") = some true) && (decide (PySem.W.typeIn K (.ref (He.ga K "NoSize")) = some (.type "type")) && (PySem.W.keepIn K (.ref (He.ga K "NoSize")))))))))))))
def gH10 (K : PySem.W.Frag) : Bool := PySem.W.excIn K (He.ga K "NoSize") [.type "ValueError", .type "Exception", .type "BaseException", .type "object"] "ValueError.__new__" && (decide (PySem.W.subIn K (.ref (He.ga K "NoSize")) (.ref (He.ga K "ForkError")) = some true) && (decide (PySem.W.subIn K (.ref (He.ga K "NoSize")) (.ref (He.ga K "NoSize")) = some true) && (decide (PySem.W.subIn K (.ref (He.ga K "NoSize")) (.ref (He.ga K "NoProgram")) = some false) && (decide (PySem.W.subIn K (.ref (He.ga K "NoSize")) (.ref (He.ga K "NoPath")) = some false) && ((He.Fa.glo "NoProgram").ok K && (He.eqO (PySem.W.findIn K (.ref (He.ga K "NoProgram")) "__getattribute__") (some (some (.builtin "BaseException.__getattribute__"))) && (He.eqO (PySem.W.findIn K (.ref (He.ga K "NoProgram")) "__getattr__") (some none) && (decide (PySem.W.subIn K (.ref (He.ga K "NoProgram")) (.type "BaseException") = some true) && (PySem.W.hasDictIn K (He.ga K "NoProgram") && (He.eqO (PySem.W.findIn K (.ref (He.ga K "NoProgram")) "__class__") (some (some (.builtin "object.__class__"))) && (decide (PySem.W.mroIn K (He.ga K "NoProgram") (.type "object") = some true))))))))))))
def gH11 (K : PySem.W.Frag) : Bool := decide (PySem.W.typeIn K (.ref (He.ga K "NoProgram")) = some (.type "type")) && (PySem.W.keepIn K (.ref (He.ga K "NoProgram")) && (decide (PySem.W.subIn K (.ref (He.ga K "NoProgram")) (.ref (He.ga K "ForkError")) = some true) && (decide (PySem.W.subIn K (.ref (He.ga K "NoProgram")) (.ref (He.ga K "NoSize")) = some false) && (decide (PySem.W.subIn K (.ref (He.ga K "NoProgram")) (.ref (He.ga K "NoProgram")) = some true) && (decide (PySem.W.subIn K (.ref (He.ga K "NoProgram")) (.ref (He.ga K "NoPath")) = some false) && ((He.Fa.meth "NoProgram" "__init__").ok K && (decide (PySem.W.typeIn K (.ref (He.ma K (He.ga K "NoProgram") "__init__")) = some (.type "function")) && (excB K (He.ga K "NoProgram") [.type "ValueError", .type "Exception", .type "BaseException", .type "object"] "ValueError.__new__" && (He.eqO (PySem.W.findIn K (.ref (He.ga K "NoProgram")) "__setattr__") (some (some (.builtin "object.__setattr__"))) && (He.eqO (PySem.W.findIn K (.ref (He.ga K "NoProgram")) "row") (some none) && (He.eqO (PySem.W.specialIn K (.ref (He.ga K "ForkError")) "__getattribute__") (some (some (.builtin "type.__getattribute__"))))))))))))))
def gH12 (K : PySem.W.Frag) : Bool := PySem.W.readsIn K (He.ga K "ForkError") (.type "type") && (foundB "ValueError.__init__" (PySem.W.findCls K (.ref (He.ga K "ForkError")) (.type "type") "__init__") && ((He.Fa.glo "NoPath").ok K && (He.eqO (PySem.W.findIn K (.ref (He.ga K "NoPath")) "__getattribute__") (some (some (.builtin "BaseException.__getattribute__"))) && (He.eqO (PySem.W.findIn K (.ref (He.ga K "NoPath")) "__getattr__") (some none) && (decide (PySem.W.subIn K (.ref (He.ga K "NoPath")) (.type "BaseException") = some true) && (PySem.W.hasDictIn K (He.ga K "NoPath") && (He.eqO (PySem.W.findIn K (.ref (He.ga K "NoPath")) "__class__") (some (some (.builtin "object.__class__"))) && (decide (PySem.W.mroIn K (He.ga K "NoPath") (.type "object") = some true) && (decide (PySem.W.typeIn K (.ref (He.ga K "NoPath")) = some (.type "type")) && (PySem.W.keepIn K (.ref (He.ga K "NoPath")) && (PySem.W.excIn K (He.ga K "NoPath") [.type "ValueError", .type "Exception", .type "BaseException", .type "object"] "ValueError.__new__")))))))))))
def gH13 (K : PySem.W.Frag) : Bool := decide (PySem.W.subIn K (.ref (He.ga K "NoPath")) (.ref (He.ga K "ForkError")) = some true) && (decide (PySem.W.subIn K (.ref (He.ga K "NoPath")) (.ref (He.ga K "NoSize")) = some false) && (decide (PySem.W.subIn K (.ref (He.ga K "NoPath")) (.ref (He.ga K "NoProgram")) = some false) && (decide (PySem.W.subIn K (.ref (He.ga K "NoPath")) (.ref (He.ga K "NoPath")) = some true) && (txB K "DONE" "done" && (txB K "ELDER" "e" && (txB K "FAILED" "failed" && (txB K "FORK" "fork" && ((He.Fa.int "LARGEST" 1000000000000000000).ok K && ((He.Fa.int "MOST" 1000).ok K && ((He.Fa.int "NO_ROW" (-1)).ok K && (txB K "YOUNGER" "y")))))))))))
def gH14 (K : PySem.W.Frag) : Bool := He.eqO (PySem.W.nsIn K mainGlobals "SHAPES") (some (some (.ref (gdH K "SHAPES")))) && (He.valsB K (gdH K "SHAPES") (kv_SHAPES.map fun q => (q.1, He.Dv.str q.2)) && ((He.Fa.free "ArithmeticError").ok K && ((He.Fa.free "ValueError").ok K && ((He.Fa.free "abs").ok K && ((He.Fa.free "all").ok K && ((He.Fa.free "any").ok K && ((He.Fa.free "bool").ok K && ((He.Fa.free "divmod").ok K && ((He.Fa.free "enumerate").ok K && ((He.Fa.free "int").ok K && ((He.Fa.free "isinstance").ok K)))))))))))
def gH15 (K : PySem.W.Frag) : Bool := (He.Fa.free "len").ok K && ((He.Fa.free "list").ok K && ((He.Fa.free "max").ok K && ((He.Fa.free "min").ok K && ((He.Fa.free "range").ok K && ((He.Fa.free "repr").ok K && ((He.Fa.free "str").ok K && ((He.Fa.free "sum").ok K && ((He.Fa.free "tuple").ok K && ((He.Fa.free "zip").ok K)))))))))
def exH (K : PySem.W.Frag) : Bool := gH0 K && (gH1 K && (gH2 K && (gH3 K && (gH4 K && (gH5 K && (gH6 K && (gH7 K && (gH8 K && (gH9 K && (gH10 K && (gH11 K && (gH12 K && (gH13 K && (gH14 K && (gH15 K)))))))))))))))
abbrev RwH : PySem.W.OpenRow := PySem.W.OpenLaw.row PySem.Challenge.rw_forkthrift_k81_whole_paths_gone_alone
/-- what the names reach in n steps -/
def lvM (g : Addr → Option Obj) : Nat → List Addr → List Addr
  | 0, as => as
  | n + 1, as => as ++ lvM g n (as.flatMap fun a => match g a with | some o => He.refsD o | none => [])
def frM (g : Addr → Option Obj) (n : Nat) : PySem.W.Frag := He.frG g (lvM g n [mainGlobals] ++ [cStatics])
def hookM (n : Nat) (fn : List He.DefD) (ex : PySem.W.Frag → Bool) : PySem.W.Hook where
  α := He.AlD × (Bool × List (Option (List (Option (Str × Int)))))
  obs := fun s => (He.obsD [] fn (frM s.heap.get? n), ex (frM s.heap.get? n), dicsH (frM s.heap.get? n))
  val := fun w => (He.valD fn, true, dvalH w.params)
  says := fun w h => ∃ K : PySem.W.Frag, K.In h ∧ He.SaysD [] fn K ∧ ex K = true ∧ dicsH K = dvalH w.params
  of := fun _ _ e => ⟨_, He.frG_in, congrArg Prod.fst e, congrArg (fun z => z.2.1) e, congrArg (fun z => z.2.2) e⟩
  keeps := fun _ _ _ ⟨K, hK, c⟩ k => ⟨K, PySem.W.Frag.In.keeps hK k, c⟩
abbrev hkH : PySem.W.Hook := hookM 5 fnH exH
def obH (s : PySem.W.SharedT) : He.AlD × (Bool × List (Option (List (Option (Str × Int))))) := (He.obsD [] fnH (frM (HandSHeadRun.getT s) 5), exH (frM (HandSHeadRun.getT s) 5), dicsH (frM (HandSHeadRun.getT s) 5))
theorem obH_eq (s : PySem.W.SharedT) : obH s = hkH.obs s.abs := by
  have e : HandSHeadRun.getT s = s.abs.heap.get? := funext (HandSHeadRun.getT_eq s)
  unfold obH
  rw [e] <;> rfl
def lsH0 : List Str := ["_wall", "__name__", "ForkError", "NoSize", "NoCell", "NoNumber", "NoStretch", "NoRuns", "NoProgram", "NoPath", "TooMany", "LARGEST", "is_number", "is_whole", "is_size", "is_run", "are_runs", "joined", "cut_out", "want_size", "want_number", "want_cell", "want_stretch", "Memory"]
def lsH1 : List Str := ["memory_of", "MOST", "DONE", "FAILED", "ELDER", "YOUNGER", "FORK", "NO_ROW", "Lone", "is_path", "gone_alone", "SHAPES", "fits", "is_program_row", "Program", "_law_pot", "_law_take", "_law_among", "_law_part", "_law_joined", "_law_with", "_law_width", "_law_cell", "_law_much"]
def lsH2 : List Str := ["_law_written", "_law_row_drawn", "_law_loop", "_law_plan", "_law_comes", "_law_begun", "_law_at", "_law_led", "_law_put_there", "_law_does", "_law_turn", "_law_due", "_law_told", "_law_right"]
def lsH : List Str := lsH0 ++ lsH1 ++ lsH2
set_option maxHeartbeats 0 in
theorem runHF (w : World) : HandSHeadRun.RunEq RwH (PySem.W.view RwH.prog [67]) hkH obH 200000 lsH (w.withFollow "special-get-raises" false) := by
  intro os
  kernel_rfl
set_option maxHeartbeats 0 in
theorem runHT (w : World) : HandSHeadRun.RunEq RwH (PySem.W.view RwH.prog [67]) hkH obH 200000 lsH (w.withFollow "special-get-raises" true) := by
  intro os
  kernel_rfl
theorem runH (w : World) : HandSHeadRun.RunEq RwH (PySem.W.view RwH.prog [67]) hkH obH 200000 lsH w :=
  PySem.W.byRow2 "special-get-raises" (P := fun w => HandSHeadRun.RunEq RwH (PySem.W.view RwH.prog [67]) hkH obH 200000 lsH w) runHF runHT w

def sp_law_value : Sp := fun vs H Q _ => ∃ (p : Addr), vs = [.ref p] ∧ PotAt H p ∧
  ∀ r H', -1000000000000000000000000000000000000000000000000000000000000 ≤ r →
    r ≤ 1000000000000000000000000000000000000000000000000000000000000 → PotAt H' p → Kp [p] H H' → Q (.int r) H'
theorem use_value {H : Hp} {Q : VK} {E : XK} {p : Addr} (hp : PotAt H p)
    (k : ∀ r H', -1000000000000000000000000000000000000000000000000000000000000 ≤ r →
      r ≤ 1000000000000000000000000000000000000000000000000000000000000 → PotAt H' p → Kp [p] H H' → Q (.int r) H') :
    sp_law_value [.ref p] H Q E := ⟨p, rfl, hp, k⟩

/-! ### joined -/
def jst (f : List (Int × Int)) (p : Int × Int) : List (Int × Int) :=
  if 0 < p.1 then
    match f.getLast? with
    | some q => if q.2 = p.2 then f.dropLast ++ [(q.1 + p.1, p.2)] else f ++ [p]
    | none => [p]
  else f
theorem jst_same {f0 : List (Int × Int)} {q0 p : Int × Int} (h0 : 0 < p.1) (h1 : q0.2 = p.2) :
    jst (f0 ++ [q0]) p = f0 ++ [(q0.1 + p.1, p.2)] := by
  unfold jst
  rw [if_pos h0]
  simp [h1]
theorem jst_other {f0 : List (Int × Int)} {q0 p : Int × Int} (h0 : 0 < p.1) (h1 : ¬ q0.2 = p.2) :
    jst (f0 ++ [q0]) p = f0 ++ [q0] ++ [p] := by
  unfold jst
  rw [if_pos h0]
  simp [h1]
theorem jst_nil {p : Int × Int} (h0 : 0 < p.1) : jst [] p = [p] := by
  unfold jst
  rw [if_pos h0]
  rfl
theorem jst_no {f : List (Int × Int)} {p : Int × Int} (h0 : ¬ 0 < p.1) : jst f p = f := by
  unfold jst
  rw [if_neg h0]
def jnd (ps : List (Int × Int)) : List (Int × Int) := ps.foldl jst []
theorem jst_len (f : List (Int × Int)) (p : Int × Int) : (jst f p).length ≤ f.length + 1 := by
  unfold jst
  split
  · split
    · split
      · rename_i q hq _
        simp only [List.length_append, List.length_dropLast, List.length_singleton]
        omega
      · simp
    · simp
  · omega
theorem jnd_take {ps : List (Int × Int)} {i : Nat} {p : Int × Int} (h : ps[i]? = some p) :
    jnd (ps.take (i + 1)) = jst (jnd (ps.take i)) p := by
  unfold jnd
  rw [List.take_add_one, h, List.foldl_append]
  rfl
theorem jnd_len : ∀ (ps : List (Int × Int)) (i : Nat), (jnd (ps.take i)).length ≤ i
  | ps, 0 => by simp [jnd]
  | ps, i + 1 => by
    cases h : ps[i]? with
    | none =>
      have e : ps.take (i + 1) = ps.take i := by
        rw [List.take_add_one, h]
        simp
      rw [e]
      have q := jnd_len ps i
      omega
    | some p =>
      rw [jnd_take h]
      have q := jnd_len ps i
      have q2 := jst_len (jnd (ps.take i)) p
      omega
def sp_joined (K : PySem.W.Frag) : Sp := fun vs H Q _ => ∃ (a : Addr) (ps : List (Int × Int)),
  vs = [.ref a] ∧ Dp K H (.ref a) (.list (ps.map d2)) ∧ ps.length ≤ 100000 ∧
  ∀ l H', Fr H l → Kp [] H H' → LD K H' l ((jnd ps).map d2) → Q (.ref l) H'
theorem sc_joined : FnScope ["pairs", "found", "many", "number"] ["pairs"] (defScope s_joined) :=
  ⟨rfl, rfl, rfl, by decide +kernel, rfl, by decide +kernel, by decide +kernel⟩
theorem ok_joined {P : Program} {w : World} {K : PySem.W.Frag} {mg : Str → Option Value} {base : Heap} (T : Txt w K mg) :
    FnG P w K mg base 1 T.a_joined T.d_joined ["pairs"] (sp_joined K) := by
  refine okD T.F_joined sc_joined (fun vs H Q E h => ?_) (fun cdv A outer s H vs Q E hr h => ?_)
  · first
      | (obtain ⟨_, rfl, _⟩ := h; rfl)
      | (obtain ⟨_, _, rfl, _⟩ := h; rfl)
      | (obtain ⟨_, _, _, rfl, _⟩ := h; rfl)
      | (obtain ⟨_, _, _, _, rfl, _⟩ := h; rfl)
      | (obtain ⟨_, _, _, _, _, rfl, _⟩ := h; rfl)
      | (obtain ⟨_, _, _, _, _, _, rfl, _⟩ := h; rfl)
      | (obtain ⟨_, _, _, _, _, _, _, rfl, _⟩ := h; rfl)
      | (obtain ⟨_, _, _, _, _, _, _, _, rfl, _⟩ := h; rfl)
      | (obtain ⟨_, _, _, _, _, _, _, _, _, rfl, _⟩ := h; rfl)
      | (obtain ⟨_, _, _, _, _, _, _, _, _, _, rfl, _⟩ := h; rfl)
      | (obtain ⟨_, _, _, _, _, _, _, _, _, _, _, rfl, _⟩ := h; rfl)
      | (obtain ⟨_, _, _, _, _, _, _, _, _, _, _, _, rfl, _⟩ := h; rfl)
      | (obtain ⟨_, _, _, _, _, _, _, _, _, _, _, _, _, rfl, _⟩ := h; rfl)
      | (obtain ⟨_, _, _, _, _, _, _, _, _, _, _, _, _, _, rfl, _⟩ := h; rfl)
      | (obtain ⟨_, _, _, _, _, _, _, _, _, _, _, _, _, _, _, rfl, _⟩ := h; rfl)
      | (obtain ⟨_, _, _, _, _, _, _, _, _, _, _, _, _, _, _, _, rfl, _⟩ := h; rfl)
      | (obtain ⟨_, _, _, _, _, _, _, _, _, _, _, _, _, _, _, _, _, rfl, _⟩ := h; rfl)
      | (obtain ⟨_, _, _, _, _, _, _, _, _, _, _, _, _, _, _, _, _, _, rfl, _⟩ := h; rfl)
      | (obtain ⟨_, _, _, _, _, _, _, _, _, _, _, _, _, _, _, _, _, _, _, rfl, _⟩ := h; rfl)
  · obtain ⟨a, ps, rfl, ha, hps, k⟩ := h
    cases ha
    rename_i xs hsq hall
    have hlen := dpa_len hall
    rw [List.length_map] at hlen
    have cl_Memory := T.cl_Memory
    have na_Memory_pairs := T.na_Memory_pairs
    have na_Memory_wide := T.na_Memory_wide
    have cl_Lone := T.cl_Lone
    have na_Lone_all_rows := T.na_Lone_all_rows
    have na_Lone_cells := T.na_Lone_cells
    have na_Lone_next_row := T.na_Lone_next_row
    have na_Lone_numbers := T.na_Lone_numbers
    have na_Lone_rested := T.na_Lone_rested
    have cl_Program := T.cl_Program
    have na_Program_own_rows := T.na_Program_own_rows
    have na_Program_own_size := T.na_Program_own_size
    refine ⟨_, (pss_cons (ps_set (i := 1) sc_joined.nd rfl (Or.inl rfl) (pe_lst pa_nil))
      (pss_cons (ps_for (passes_of rfl) rfl (k_plist (K := K) rfl (pv 0)) (k_gtup (K := K) 2 rfl rfl (pgs_cons (pg_name (i := 2) sc_joined.nd rfl (Or.inl rfl)) (pgs_cons (pg_name (i := 3) sc_joined.nd rfl (Or.inl rfl)) pgs_nil)))
      (pss_one (ps_if (PW.pt (pw_and (pt_cmpR op_gt (pv 2) pe_int (nomark _)) (pw_and (pt_cmpR (k_ne (K := K) rfl hr.r.units) (pv 1) (pe_lst pa_nil) (nomark _)) (pw_and1 (pt_cmpR (k_eq (K := K) rfl hr.r.units) (pe_ix (k_ix (K := K) rfl) (pe_ix (k_ix (K := K) rfl) (pv 1) (pe_un un_neg pe_int) (fun _ _ => rfl)) pe_int (fun _ _ => rfl)) (pv 3) (nomark _)))))) (pss_one (ps_asg (pe_tup (pa_cons (pe_op (k_add (K := K) rfl) (pe_ix (k_ix (K := K) rfl) (pe_ix (k_ix (K := K) rfl) (pv 1) (pe_un un_neg pe_int) (fun _ _ => rfl)) pe_int (fun _ _ => rfl)) (pv 2)) (pa_cons (pv 3) pa_nil))) (pg_sub (pv 1) (pe_un un_neg pe_int) set_list))) (pss_one (ps_if (pt_cmpR op_gt (pv 2) pe_int (nomark _)) (pss_one (ps_expr (pe_bm PySem.F.plainAttrs_list PySem.F.slot_list_append PySem.F.type_list_append mt_append (pv 1) (pa_cons (pe_tup (pa_cons (pv 2) (pa_cons (pv 3) pa_nil))) pa_nil)))) pss_nil)))))
      (pss_one (ps_ret (pv 1))))), ?_⟩
    dsimp only [cxOf, st_1, st_2, st_3, st_4, st_5, st_6, List.length_cons, List.length_nil, List.replicate_succ, List.replicate_zero, Nat.reduceAdd, Nat.reduceSub]
    walk_at "gs"
    refine i_new fun l hl => ?_
    walk_at "gs"
    refine i_each ((Kp.new hl).seqL (ws := []) List.not_mem_nil hsq) (fun i σ H' => ∃ u v, σ = [some (.ref a), some (.ref l), u, v] ∧ Kp [] H H' ∧
      LD K H' l ((jnd (ps.take i)).map d2)) ?_ ?_ ?_ ?_
    · exact ⟨none, none, rfl, Kp.new hl, ⟨[], upd_same, .nil⟩⟩
    · rintro i σ H' _ ⟨u, v, rfl, kp, ld⟩
      exact kp.seqL List.not_mem_nil hsq
    · rintro i x σ H' hx ⟨u, v, rfl, kp, ld⟩
      obtain ⟨d, hd, hdp⟩ := dpa_getV hall hx
      obtain ⟨p, hp, rfl⟩ := map_get hd
      obtain ⟨pa, rfl, hpt⟩ := dp_pair hdp
      replace hpt := kp.seqT hpt
      obtain ⟨vs, hvs, hall2⟩ := id ld
      have hvl := dpa_len hall2
      rw [List.length_map] at hvl
      have hjl := jnd_len ps i
      have hil : i < ps.length := (List.getElem?_eq_some_iff.mp hp).1
      walk_at "gs"
      refine i_dec (fun h0 => ?_) (fun h0 => ?_)
      · walk_at "gs"
        refine i_new fun q hq => ?_
        walk_at "gs"
        refine ne_nil ld (imms_d2 _) (shaped_pairs _) hq ?_
        walk_at "gs"
        refine i_boN (fun e => ?_) (fun e => ?_)
        · obtain ⟨f0, q0, hF⟩ := list_last (l := jnd (ps.take i)) (by
            intro z
            rw [z] at e
            cases e)
          rw [hF, List.map_append] at hall2
          obtain ⟨us, x, rfl, hu, hx2⟩ := dpa_last hall2
          obtain ⟨qa, rfl, hqa⟩ := dp_pair hx2
          rw [List.length_append, List.length_singleton] at hvl
          walk_at "gs"
          refine i_dec (fun h1 => ?_) (fun h1 => ?_)
          · walk_at "gs"
            refine i_new fun t ht => ?_
            walk_at "gs"
            rw [set_last]
            refine ⟨_, _, rfl, ?_, _, upd_same, ?_⟩
            · walk_at "g_kp"
            · have kl : Kp [l] H' (upd (upd (upd H' q (.lst [])) t (.tup [.int (q0.1 + p.1), .int p.2])) l
                  (.lst (us ++ [V.ref t]))) := by walk_at "g_kp"
              rw [jnd_take hp, hF, jst_same h0 h1, List.map_append]
              exact dpa_app (dpa_imm kl _ _ (imms_d2 _) hu) (dpa_one (dp_mk2 (by walk_at "g_st")))
          · walk_at "gs"
            refine i_dec (fun _ => ?_) (fun z => absurd h0 z)
            walk_at "gs"
            refine i_new fun t ht => ?_
            walk_at "gs"
            refine ⟨_, _, rfl, ?_, _, upd_same, ?_⟩
            · walk_at "g_kp"
            · have kl : Kp [l] H' (upd (upd (upd H' q (.lst [])) t (.tup [.int p.1, .int p.2])) l
                  (.lst (us ++ [V.ref qa] ++ [V.ref t]))) := by walk_at "g_kp"
              rw [jnd_take hp, hF, jst_other h0 h1, List.map_append, List.map_append]
              exact dpa_app (dpa_app (dpa_imm kl _ _ (imms_d2 _) hu) (dpa_one (dp_imm kl _ _ rfl hx2))) (dpa_one (dp_mk2 (by walk_at "g_st")))
        · walk_at "gs"
          refine i_dec (fun _ => ?_) (fun z => absurd h0 z)
          walk_at "gs"
          refine i_new fun t ht => ?_
          walk_at "gs"
          have hF : jnd (ps.take i) = [] := by
            cases z : jnd (ps.take i) with
            | nil => rfl
            | cons x y =>
              rw [z] at e
              cases e
          rw [hF] at hall2
          cases hall2
          refine ⟨_, _, rfl, ?_, _, upd_same, ?_⟩
          · walk_at "g_kp"
          · rw [jnd_take hp, hF, jst_nil h0]
            exact dpa_one (dp_mk2 (by walk_at "g_st"))
      · walk_at "gs"
        refine i_dec (fun z => absurd z h0) (fun _ => ?_)
        walk_at "gs"
        refine ⟨_, _, rfl, kp, ?_⟩
        rw [jnd_take hp, jst_no h0]
        exact ld
    · rintro σ H' ⟨u, v, rfl, kp, ld⟩
      walk_at "gs"
      rw [List.take_of_length_le (by omega)] at ld
      exact k l H' hl kp ld

/-! ### counting from the back -/
def wst (f : List (Int × Int)) (p : Int × Int) : List (Int × Int) :=
  match f with
  | [] => [(0 + p.1, p.2)]
  | q :: t => if q.2 = p.2 then (q.1 + p.1, p.2) :: t else (0 + p.1, p.2) :: q :: t
def pos (p : Int × Int) : Bool := decide (0 < p.1)
def wrt (ps : List (Int × Int)) : List (Int × Int) := (ps.reverse.filter pos).foldl wst []
def wr : List (Int × Int) → List (Int × Int)
  | [] => []
  | p :: ps => if 0 < p.1 then wst (wr ps) p else wr ps
theorem wrt_eq (ps : List (Int × Int)) : wrt ps = wr ps := by
  induction ps with
  | nil => rfl
  | cons p ps ih =>
    unfold wrt at *
    rw [List.reverse_cons, List.filter_append, List.foldl_append, ih]
    by_cases h : 0 < p.1
    · simp [wr, h, pos]
    · simp [wr, h, pos]
/-- what is put ahead of the rest -/
def glue (f : List (Int × Int)) : List (Int × Int) → List (Int × Int)
  | [] => f
  | q :: t => jst f q ++ t
theorem wr_pos : ∀ (ps : List (Int × Int)) (q : Int × Int), q ∈ wr ps → 0 < q.1
  | [], _, h => nomatch h
  | p :: ps, q, h => by
    unfold wr at h
    by_cases hp : 0 < p.1
    · rw [if_pos hp] at h
      cases e : wr ps with
      | nil =>
        rw [e] at h
        simp only [wst, List.mem_singleton] at h
        rw [h]
        show 0 < 0 + p.1
        omega
      | cons x t =>
        have hx : 0 < x.1 := wr_pos ps x (by rw [e]; exact List.mem_cons_self)
        rw [e] at h
        unfold wst at h
        simp only at h
        by_cases hq : x.2 = p.2
        · rw [if_pos hq] at h
          rcases List.mem_cons.mp h with z | z
          · rw [z]
            show 0 < x.1 + p.1
            omega
          · exact wr_pos ps q (by rw [e]; exact List.mem_cons_of_mem _ z)
        · rw [if_neg hq] at h
          rcases List.mem_cons.mp h with z | z
          · rw [z]
            show 0 < 0 + p.1
            omega
          · exact wr_pos ps q (by rw [e]; exact z)
    · rw [if_neg hp] at h
      exact wr_pos ps q h
theorem jst_cases (f : List (Int × Int)) (p : Int × Int) (h : 0 < p.1) :
    (∃ f0 q0, f = f0 ++ [q0] ∧ q0.2 = p.2 ∧ jst f p = f0 ++ [(q0.1 + p.1, p.2)]) ∨
    ((∀ f0 q0, f = f0 ++ [q0] → q0.2 ≠ p.2) ∧ jst f p = f ++ [p]) := by
  by_cases e : f = []
  · subst e
    exact .inr ⟨fun f0 q0 z => by simp at z, jst_nil h⟩
  · obtain ⟨f0, q0, rfl⟩ := list_last e
    by_cases c : q0.2 = p.2
    · exact .inl ⟨f0, q0, rfl, c, jst_same h c⟩
    · refine .inr ⟨fun g0 r0 z => ?_, jst_other h c⟩
      have z2 := List.append_inj_right' z rfl
      cases z2
      exact c
theorem jst_two (f : List (Int × Int)) (p q : Int × Int) (hp : 0 < p.1) (hq : 0 < q.1) (e : q.2 = p.2) :
    jst (jst f p) q = jst f (q.1 + p.1, p.2) := by
  have h3 : 0 < ((q.1 + p.1, p.2) : Int × Int).1 := by
    show 0 < q.1 + p.1
    omega
  rcases jst_cases f p hp with ⟨f0, q0, rfl, c, z⟩ | ⟨c, z⟩
  · rw [z, jst_same (q0 := (q0.1 + p.1, p.2)) (p := q) hq e.symm, jst_same h3 c]
    congr 2
    rw [e]
    congr 1
    show q0.1 + p.1 + q.1 = q0.1 + (q.1 + p.1)
    omega
  · rw [z, jst_same hq e.symm]
    rcases jst_cases f (q.1 + p.1, p.2) h3 with ⟨f0, q0, rfl, c2, z2⟩ | ⟨c2, z2⟩
    · exact absurd c2 (c f0 q0 rfl)
    · rw [z2, e]
      congr 3
      omega
theorem fold_glue : ∀ (ps f : List (Int × Int)), ps.foldl jst f = glue f (wr ps)
  | [], f => rfl
  | p :: ps, f => by
    rw [List.foldl_cons, fold_glue ps (jst f p)]
    by_cases hp : 0 < p.1
    · have e : wr (p :: ps) = wst (wr ps) p := by
        show (if 0 < p.1 then wst (wr ps) p else wr ps) = _
        rw [if_pos hp]
      rw [e]
      cases h : wr ps with
      | nil =>
        show jst f p = jst f (0 + p.1, p.2) ++ []
        rw [Int.zero_add, List.append_nil]
      | cons q t =>
        have hq : 0 < q.1 := wr_pos ps q (by rw [h]; exact List.mem_cons_self)
        unfold wst
        simp only
        by_cases c : q.2 = p.2
        · rw [if_pos c]
          show jst (jst f p) q ++ t = jst f (q.1 + p.1, p.2) ++ t
          rw [jst_two f p q hp hq c]
        · rw [if_neg c]
          show jst (jst f p) q ++ t = jst f (0 + p.1, p.2) ++ (q :: t)
          rw [Int.zero_add]
          have z : jst (jst f p) q = jst f p ++ [q] := by
            rcases jst_cases f p hp with ⟨f0, q0, rfl, d, z⟩ | ⟨d, z⟩
            · rw [z, jst_other (q0 := (q0.1 + p.1, p.2)) (p := q) hq (fun k => c k.symm)]
            · rw [z, jst_other hq (fun k => c k.symm)]
          rw [z, List.append_assoc]
          rfl
    · have e : wr (p :: ps) = wr ps := by
        show (if 0 < p.1 then wst (wr ps) p else wr ps) = _
        rw [if_neg hp]
      rw [e, jst_no hp]
theorem jnd_wr (ps : List (Int × Int)) : jnd ps = wr ps := by
  unfold jnd
  rw [fold_glue]
  cases h : wr ps with
  | nil => rfl
  | cons q t =>
    have hq : 0 < q.1 := wr_pos ps q (by rw [h]; exact List.mem_cons_self)
    show jst [] q ++ t = q :: t
    rw [jst_nil hq]
    rfl
theorem wr_len : ∀ ps : List (Int × Int), (wr ps).length ≤ ps.length
  | [] => Nat.le_refl _
  | p :: ps => by
    have q := wr_len ps
    unfold wr
    split
    · cases h : wr ps with
      | nil => simp [wst]
      | cons x t =>
        rw [h] at q
        simp only [wst, List.length_cons] at *
        split <;> simp only [List.length_cons] <;> omega
    · rw [List.length_cons]
      omega
/-- told again of what was told it is the same -/
theorem wst_wr (f : List (Int × Int)) (p : Int × Int) (hp : 0 < p.1) (hf : wr f = f)
    (hpos : ∀ q ∈ f, 0 < q.1) : wr (wst f p) = wst f p := by
  cases f with
  | nil =>
    show (if 0 < 0 + p.1 then wst [] (0 + p.1, p.2) else []) = [(0 + p.1, p.2)]
    rw [Int.zero_add, if_pos hp]
    simp [wst]
  | cons q t =>
    have hq := hpos q List.mem_cons_self
    have ht : wst (wr t) q = q :: t := by
      have z : (if 0 < q.1 then wst (wr t) q else wr t) = q :: t := hf
      rwa [if_pos hq] at z
    unfold wst
    simp only
    by_cases c : q.2 = p.2
    · rw [if_pos c]
      show (if 0 < q.1 + p.1 then wst (wr t) (q.1 + p.1, p.2) else wr t) = _
      rw [if_pos (by omega)]
      cases e : wr t with
      | nil =>
        rw [e] at ht
        simp only [wst, List.cons.injEq] at ht
        simp [wst, ← ht.2]
      | cons x u =>
        rw [e] at ht
        unfold wst at ht ⊢
        simp only at ht ⊢
        by_cases d : x.2 = q.2
        · rw [if_pos d] at ht
          have hu : wr t = t := by
            have l1 := wr_len t
            rw [e] at l1
            have l2 := congrArg List.length ht
            simp only [List.length_cons] at l1 l2
            omega
          rw [hu] at e
          subst e
          have l2 := congrArg List.length ht
          simp only [List.length_cons] at l2
          omega
        · rw [if_neg d] at ht
          rw [if_neg (by rw [← c]; exact d)]
          rw [Int.zero_add]
          have z := (List.cons.inj ht).2
          rw [z]
    · rw [if_neg c]
      show (if 0 < 0 + p.1 then wst (wr (q :: t)) (0 + p.1, p.2) else wr (q :: t)) = _
      rw [Int.zero_add, if_pos hp, hf]
      unfold wst
      simp only
      rw [if_neg c, Int.zero_add]
theorem wr_wr : ∀ ps : List (Int × Int), wr (wr ps) = wr ps
  | [] => rfl
  | p :: ps => by
    have e : wr (p :: ps) = if 0 < p.1 then wst (wr ps) p else wr ps := rfl
    rw [e]
    split
    · exact wst_wr _ _ (by assumption) (wr_wr ps) (wr_pos ps)
    · exact wr_wr ps

/-! ### runs and cells -/
def rle (cs : List Int) : List (Int × Int) := wr (cs.map tag)
theorem cells_nil : cells [] = [] := rfl
theorem cells_cons (p : Int × Int) (ps : List (Int × Int)) : cells (p :: ps) = List.replicate p.1.toNat p.2 ++ cells ps := rfl
theorem cells_app (ps qs : List (Int × Int)) : cells (ps ++ qs) = cells ps ++ cells qs := List.flatMap_append
theorem cells_tag : ∀ cs : List Int, cells (cs.map tag) = cs
  | [] => rfl
  | c :: cs => by
    rw [List.map_cons, cells_cons, cells_tag cs]
    rfl
theorem cells_wst (f : List (Int × Int)) (p : Int × Int) (hp : 0 < p.1) (hf : ∀ q ∈ f, 0 < q.1) :
    cells (wst f p) = List.replicate p.1.toNat p.2 ++ cells f := by
  cases f with
  | nil => simp [wst, cells_cons]
  | cons q t =>
    have hq := hf q List.mem_cons_self
    unfold wst
    simp only
    by_cases c : q.2 = p.2
    · rw [if_pos c, cells_cons, cells_cons]
      show List.replicate (q.1 + p.1).toNat p.2 ++ cells t = _
      have e : (q.1 + p.1).toNat = p.1.toNat + q.1.toNat := by omega
      rw [e, ← List.replicate_append_replicate, List.append_assoc, c]
    · rw [if_neg c, cells_cons]
      show List.replicate (0 + p.1).toNat p.2 ++ _ = _
      rw [Int.zero_add]
theorem cells_wr : ∀ ps : List (Int × Int), cells (wr ps) = cells ps
  | [] => rfl
  | p :: ps => by
    rw [cells_cons]
    unfold wr
    by_cases hp : 0 < p.1
    · rw [if_pos hp, cells_wst _ _ hp (wr_pos ps), cells_wr ps]
    · rw [if_neg hp, cells_wr ps]
      have e : p.1.toNat = 0 := by omega
      rw [e]
      rfl
theorem wst_more (f : List (Int × Int)) (n v : Int) (hn : 0 < n) : wst (wst f (n, v)) (1, v) = wst f (n + 1, v) := by
  cases f with
  | nil =>
    show wst [(0 + n, v)] (1, v) = [(0 + (n + 1), v)]
    unfold wst
    simp only [if_true]
    congr 2
    omega
  | cons q t =>
    by_cases c : q.2 = v
    · have e1 : wst (q :: t) (n, v) = (q.1 + n, v) :: t := by simp [wst, c]
      have e2 : wst (q :: t) (n + 1, v) = (q.1 + (n + 1), v) :: t := by simp [wst, c]
      have e3 : wst ((q.1 + n, v) :: t) (1, v) = (q.1 + n + 1, v) :: t := by simp [wst]
      rw [e1, e2, e3]
      congr 2
      omega
    · have e1 : wst (q :: t) (n, v) = (0 + n, v) :: q :: t := by simp [wst, c]
      have e2 : wst (q :: t) (n + 1, v) = (0 + (n + 1), v) :: q :: t := by simp [wst, c]
      have e3 : wst ((0 + n, v) :: q :: t) (1, v) = (0 + n + 1, v) :: q :: t := by simp [wst]
      rw [e1, e2, e3]
      congr 2
      omega
theorem wst_one (f : List (Int × Int)) (c : Int) : wr (tag c :: f) = wst (wr f) (1, c) := by
  show (if (0 : Int) < 1 then wst (wr f) (1, c) else wr f) = _
  rw [if_pos (by decide)]
theorem rle_rep (v : Int) (cs : List Int) : ∀ n : Nat, rle (List.replicate (n + 1) v ++ cs) = wst (rle cs) ((n : Int) + 1, v)
  | 0 => by
    show wr (tag v :: cs.map tag) = _
    rw [wst_one]
    rfl
  | n + 1 => by
    have ih := rle_rep v cs n
    have e : rle (List.replicate (n + 1 + 1) v ++ cs) = wst (rle (List.replicate (n + 1) v ++ cs)) (1, v) := by
      show wr (tag v :: (List.replicate (n + 1) v ++ cs).map tag) = _
      rw [wst_one]
      rfl
    rw [e, ih, wst_more _ _ _ (by omega)]
    congr 2
theorem wr_rle : ∀ ps : List (Int × Int), wr ps = rle (cells ps)
  | [] => rfl
  | p :: ps => by
    have ih := wr_rle ps
    rw [cells_cons]
    unfold wr
    by_cases hp : 0 < p.1
    · obtain ⟨n, hn⟩ : ∃ n : Nat, p.1.toNat = n + 1 := ⟨p.1.toNat - 1, by omega⟩
      rw [if_pos hp, hn, rle_rep, ih]
      congr 1
      have e : ((n : Int) + 1) = p.1 := by omega
      rw [e]
    · rw [if_neg hp]
      have e : p.1.toNat = 0 := by omega
      rw [e]
      exact ih
theorem cells_rle (cs : List Int) : cells (rle cs) = cs := by
  unfold rle
  rw [cells_wr, cells_tag]
theorem rle_len (cs : List Int) : (rle cs).length ≤ cs.length := by
  have h := wr_len (cs.map tag)
  rw [List.length_map] at h
  exact h
theorem rle_pos (cs : List Int) : ∀ q ∈ rle cs, 0 < q.1 := wr_pos _
theorem jnd_rle (ps : List (Int × Int)) : jnd ps = rle (cells ps) := by rw [jnd_wr, wr_rle]
theorem rle_inj {cs ds : List Int} (h : rle cs = rle ds) : cs = ds := by
  rw [← cells_rle cs, h, cells_rle]
theorem rle_ne {cs : List Int} (h : cs ≠ []) : rle cs ≠ [] := fun z => h (by rw [← cells_rle cs, z]; rfl)
/-- what of the pairs, that begin at a, lies between b and e -/
def cutF (b e : Int) : Int → List (Int × Int) → List (Int × Int)
  | _, [] => []
  | a, p :: t => (if max b a < min e (a + p.1) then [(min e (a + p.1) - max b a, p.2)] else []) ++ cutF b e (a + p.1) t
def cut (b e : Int) (ps : List (Int × Int)) : List (Int × Int) := cutF b e 0 ps
theorem cutF_len (b e : Int) : ∀ (a : Int) (ps : List (Int × Int)), (cutF b e a ps).length ≤ ps.length
  | _, [] => Nat.le_refl _
  | a, p :: t => by
    have h := cutF_len b e (a + p.1) t
    unfold cutF
    rw [List.length_append, List.length_cons]
    split <;> simp <;> omega
theorem cut_len (b e : Int) (ps : List (Int × Int)) : (cut b e ps).length ≤ ps.length := cutF_len b e 0 ps
theorem cutF_pos (b e : Int) : ∀ (a : Int) (ps : List (Int × Int)) (q : Int × Int), q ∈ cutF b e a ps → 0 < q.1
  | _, [], _, h => nomatch h
  | a, p :: t, q, h => by
    unfold cutF at h
    rcases List.mem_append.mp h with h | h
    · split at h
      · rw [List.mem_singleton.mp h]
        show 0 < min e (a + p.1) - max b a
        omega
      · exact nomatch h
    · exact cutF_pos b e (a + p.1) t q h
def wide (ps : List (Int × Int)) : Int := (ps.map (·.1)).sum
theorem cutF_app (b e : Int) : ∀ (a : Int) (ps : List (Int × Int)) (p : Int × Int), cutF b e a (ps ++ [p]) =
    cutF b e a ps ++ (if max b (a + wide ps) < min e (a + wide ps + p.1) then [(min e (a + wide ps + p.1) - max b (a + wide ps), p.2)] else [])
  | a, [], p => by
    have e0 : a + wide [] = a := Int.add_zero a
    rw [e0]
    show (if max b a < min e (a + p.1) then [(min e (a + p.1) - max b a, p.2)] else []) ++ [] = [] ++ _
    rw [List.append_nil, List.nil_append]
  | a, q :: t, p => by
    have ih := cutF_app b e (a + q.1) t p
    have e0 : a + wide (q :: t) = a + q.1 + wide t := by
      show a + (q.1 + wide t) = _
      omega
    rw [List.cons_append, e0]
    conv => lhs; unfold cutF
    rw [ih]
    conv => rhs; unfold cutF
    rw [List.append_assoc]
theorem cut_take {b e : Int} {ps : List (Int × Int)} {i : Nat} {p : Int × Int} (h : ps[i]? = some p) :
    cut b e (ps.take (i + 1)) = cut b e (ps.take i) ++ (if max b (wide (ps.take i)) < min e (wide (ps.take i) + p.1)
      then [(min e (wide (ps.take i) + p.1) - max b (wide (ps.take i)), p.2)] else []) := by
  unfold cut
  rw [List.take_add_one, h]
  have k := cutF_app b e 0 (ps.take i) p
  rw [Int.zero_add] at k
  exact k
theorem wide_take {ps : List (Int × Int)} {i : Nat} {p : Int × Int} (h : ps[i]? = some p) :
    wide (ps.take (i + 1)) = wide (ps.take i) + p.1 := by
  unfold wide
  rw [List.take_add_one, h, List.map_append, List.sum_append]
  simp
theorem cells_cutF (b e : Int) : ∀ (a : Int) (ps : List (Int × Int)), (∀ q ∈ ps, 0 ≤ q.1) →
    cells (cutF b e a ps) = ((cells ps).drop (b - a).toNat).take ((e - a).toNat - (b - a).toNat)
  | a, [], _ => by simp [cutF, cells]
  | a, p :: t, h => by
    have hp := h p List.mem_cons_self
    have ih := cells_cutF b e (a + p.1) t fun q hq => h q (List.mem_cons_of_mem _ hq)
    unfold cutF
    rw [cells_app, ih, cells_cons, List.drop_append, List.take_append, List.drop_replicate, List.take_replicate, List.length_replicate, List.length_replicate]
    congr 1
    · split
      · rw [cells_cons, cells_nil, List.append_nil]
        show List.replicate (min e (a + p.1) - max b a).toNat p.2 = _
        congr 1
        omega
      · have e0 : min ((e - a).toNat - (b - a).toNat) (p.1.toNat - (b - a).toNat) = 0 := by omega
        rw [e0]
        rfl
    · have e1 : (b - (a + p.1)).toNat = (b - a).toNat - p.1.toNat := by omega
      have e2 : (e - (a + p.1)).toNat - (b - (a + p.1)).toNat = (e - a).toNat - (b - a).toNat - (p.1.toNat - (b - a).toNat) := by omega
      rw [e2, e1]
theorem cells_cut {b e : Int} {ps : List (Int × Int)} (h : ∀ q ∈ ps, 0 ≤ q.1) :
    cells (cut b e ps) = ((cells ps).drop b.toNat).take (e.toNat - b.toNat) := by
  have k := cells_cutF b e 0 ps h
  rw [Int.sub_zero, Int.sub_zero] at k
  exact k
theorem cut_rle {b e : Int} {cs : List Int} : cells (cut b e (rle cs)) = (cs.drop b.toNat).take (e.toNat - b.toNat) := by
  rw [cells_cut fun q hq => Int.le_of_lt (rle_pos cs q hq), cells_rle]
theorem one_cell {ps : List (Int × Int)} {v : Int} (hp : ∀ q ∈ ps, 0 < q.1) (h : cells ps = [v]) : ps = [(1, v)] := by
  cases ps with
  | nil => cases h
  | cons p t =>
    have h0 := hp p List.mem_cons_self
    rw [cells_cons] at h
    have hl := congrArg List.length h
    rw [List.length_append, List.length_replicate, List.length_singleton] at hl
    have e1 : p.1.toNat = 1 := by omega
    have e2 : t = [] := by
      cases t with
      | nil => rfl
      | cons q u =>
        have h1 := hp q (List.mem_cons_of_mem _ List.mem_cons_self)
        rw [cells_cons, List.length_append, List.length_replicate] at hl
        omega
    rw [e1, e2, cells_nil, List.append_nil] at h
    cases h
    rw [e2]
    congr 1
    have e3 : p.1 = 1 := by omega
    rw [← e3]
theorem cut_at {cs : List Int} {c : Nat} {v : Int} (h : cs[c]? = some v) : cut c (c + 1) (rle cs) = [(1, v)] := by
  refine one_cell (cutF_pos _ _ _ _) ?_
  rw [cut_rle]
  obtain ⟨hc, e⟩ := List.getElem?_eq_some_iff.mp h
  have e1 : ((c : Int)).toNat = c := by omega
  have e2 : ((c : Int) + 1).toNat - c = 1 := by omega
  rw [e1, e2, List.drop_eq_getElem_cons hc, e]
  rfl
/-- laid over -/
def laid (cs : List Int) (b : Nat) (xs : List Int) (e : Nat) : List Int := cs.take b ++ xs ++ cs.drop e
theorem laid_rle {cs : List Int} {b e : Int} {ps : List (Int × Int)} :
    jnd (cut 0 b (rle cs) ++ ps ++ cut e cs.length (rle cs)) = rle (laid cs b.toNat (cells ps) e.toNat) := by
  rw [jnd_rle, cells_app, cells_app, cut_rle, cut_rle]
  unfold laid
  rw [List.take_of_length_le (l := cs.drop e.toNat) (by rw [List.length_drop]; omega)]
  rfl
theorem laid_len {cs xs : List Int} {b e : Nat} (h : b ≤ e) (he : e ≤ cs.length) (hx : xs.length = e - b) :
    (laid cs b xs e).length = cs.length := by
  unfold laid
  rw [List.length_append, List.length_append, List.length_take, List.length_drop, hx]
  omega
theorem cells_len : ∀ ps : List (Int × Int), (∀ q ∈ ps, 0 < q.1) → ((cells ps).length : Int) = wide ps
  | [], _ => rfl
  | p :: ps, h => by
    have ih := cells_len ps fun q hq => h q (List.mem_cons_of_mem _ hq)
    have hp := h p List.mem_cons_self
    rw [cells_cons, List.length_append, List.length_replicate]
    show ((p.1.toNat + (cells ps).length : Nat) : Int) = p.1 + wide ps
    omega

/-! ### data of any kind -/
section
variable {K : PySem.W.Frag} {H H' : Hp} {ws : List Addr}
mutual
/-- data none of whose lists is in ws -/
inductive Dx (K : PySem.W.Frag) (H : Hp) (ws : List Addr) : V → PyData → Prop
  | non : Dx K H ws .non .none
  | bl (b : Bool) : Dx K H ws (.bl b) (.bool b)
  | int (i : Int) : Dx K H ws (.int i) (.int i)
  | str (x : Str) : Dx K H ws (.str x) (.str x)
  | lst {a : Addr} {xs : List V} {ds : List PyData} : a ∉ ws → H a = some (.lst xs) → DxAll K H ws xs ds → Dx K H ws (.ref a) (.list ds)
  | tup {a : Addr} {xs : List V} {ds : List PyData} : SqT K H a xs → DxAll K H ws xs ds → Dx K H ws (.ref a) (.tuple ds)
inductive DxAll (K : PySem.W.Frag) (H : Hp) (ws : List Addr) : List V → List PyData → Prop
  | nil : DxAll K H ws [] []
  | cons {v : V} {vs : List V} {d : PyData} {ds : List PyData} : Dx K H ws v d → DxAll K H ws vs ds → DxAll K H ws (v :: vs) (d :: ds)
end
mutual
theorem Dx.dp : ∀ (d : PyData) (v : V), Dx K H ws v d → Dp K H v d
  | .none, _, h => by cases h; exact .non
  | .bool b, _, h => by cases h; exact .bl b
  | .int i, _, h => by cases h; exact .int i
  | .str x, _, h => by cases h; exact .str x
  | .list ds, _, h => by
    cases h with
    | lst _ hs ha => exact .lst (SqL.of hs) (DxAll.dp ds _ ha)
  | .tuple ds, _, h => by
    cases h with
    | tup hs ha => exact .tup hs (DxAll.dp ds _ ha)
  | .dict _, _, h => by cases h
theorem DxAll.dp : ∀ (ds : List PyData) (vs : List V), DxAll K H ws vs ds → DpAll K H vs ds
  | [], _, h => by cases h; exact .nil
  | d :: ds, _, h => by
    cases h with
    | cons h1 h2 => exact .cons (Dx.dp d _ h1) (DxAll.dp ds _ h2)
end
mutual
theorem Dx.kp (k : Kp ws H H') : ∀ (d : PyData) (v : V), Dx K H ws v d → Dx K H' ws v d
  | .none, _, h => by cases h; exact .non
  | .bool b, _, h => by cases h; exact .bl b
  | .int i, _, h => by cases h; exact .int i
  | .str x, _, h => by cases h; exact .str x
  | .list ds, _, h => by
    cases h with
    | lst n hs ha => exact .lst n (k.at_ _ _ hs n) (DxAll.kp k ds _ ha)
  | .tuple ds, _, h => by
    cases h with
    | tup hs ha => exact .tup (k.seqT hs) (DxAll.kp k ds _ ha)
  | .dict _, _, h => by cases h
theorem DxAll.kp (k : Kp ws H H') : ∀ (ds : List PyData) (vs : List V), DxAll K H ws vs ds → DxAll K H' ws vs ds
  | [], _, h => by cases h; exact .nil
  | d :: ds, _, h => by
    cases h with
    | cons h1 h2 => exact .cons (Dx.kp k d _ h1) (DxAll.kp k ds _ h2)
end
mutual
theorem dx_imm : ∀ (d : PyData) (v : V), imm d = true → Dp K H v d → Dx K H ws v d
  | .none, _, _, h => by cases h; exact .non
  | .bool b, _, _, h => by cases h; exact .bl b
  | .int i, _, _, h => by cases h; exact .int i
  | .str x, _, _, h => by cases h; exact .str x
  | .list ds, _, e, h => by simp [imm] at e
  | .tuple ds, _, e, h => by
    cases h with
    | tup hs ha => exact .tup hs (dxs_imm ds _ (by simpa [imm] using e) ha)
  | .dict _, _, _, h => by cases h
theorem dxs_imm : ∀ (ds : List PyData) (vs : List V), imms ds = true → DpAll K H vs ds → DxAll K H ws vs ds
  | [], _, _, h => by cases h; exact .nil
  | d :: ds, _, e, h => by
    cases h with
    | cons h1 h2 =>
      simp only [imms, Bool.and_eq_true] at e
      exact .cons (dx_imm d _ e.1 h1) (dxs_imm ds _ e.2 h2)
end
mutual
theorem Dx.wider {us : List Addr} (hu : ∀ b ∈ us, ∀ xs, H b ≠ some (.lst xs)) : ∀ (d : PyData) (v : V), Dx K H ws v d → Dx K H (us ++ ws) v d
  | .none, _, h => by cases h; exact .non
  | .bool b, _, h => by cases h; exact .bl b
  | .int i, _, h => by cases h; exact .int i
  | .str x, _, h => by cases h; exact .str x
  | .list ds, _, h => by
    cases h with
    | lst n hs ha => exact .lst (fun z => (List.mem_append.mp z).elim (fun z => hu _ z _ hs) n) hs (DxAll.wider hu ds _ ha)
  | .tuple ds, _, h => by
    cases h with
    | tup hs ha => exact .tup hs (DxAll.wider hu ds _ ha)
  | .dict _, _, h => by cases h
theorem DxAll.wider {us : List Addr} (hu : ∀ b ∈ us, ∀ xs, H b ≠ some (.lst xs)) : ∀ (ds : List PyData) (vs : List V), DxAll K H ws vs ds → DxAll K H (us ++ ws) vs ds
  | [], _, h => by cases h; exact .nil
  | d :: ds, _, h => by
    cases h with
    | cons h1 h2 => exact .cons (Dx.wider hu d _ h1) (DxAll.wider hu ds _ h2)
end
theorem dxa_len : ∀ {ds : List PyData} {vs : List V}, DxAll K H ws vs ds → vs.length = ds.length
  | [], _, h => by cases h; rfl
  | d :: ds, _, h => by
    cases h with
    | cons h1 h2 => rw [List.length_cons, List.length_cons, dxa_len h2]
theorem dxa_get : ∀ {ds : List PyData} {vs : List V} {i : Nat} {v : V}, DxAll K H ws vs ds → vs[i]? = some v → ∃ d, ds[i]? = some d ∧ Dx K H ws v d
  | [], _, _, _, h, e => by
    cases h
    simp at e
  | d :: ds, _, 0, _, h, e => by
    cases h with
    | cons h1 h2 =>
      cases e
      exact ⟨d, rfl, h1⟩
  | d :: ds, _, i + 1, _, h, e => by
    cases h with
    | cons h1 h2 =>
      obtain ⟨q, e1, e2⟩ := dxa_get (i := i) h2 (by simpa using e)
      exact ⟨q, by simpa using e1, e2⟩
theorem dxa_app : ∀ {ds es : List PyData} {vs us : List V}, DxAll K H ws vs ds → DxAll K H ws us es → DxAll K H ws (vs ++ us) (ds ++ es)
  | [], _, _, _, h, h' => by
    cases h
    exact h'
  | d :: ds, _, _, _, h, h' => by
    cases h with
    | cons h1 h2 => exact .cons h1 (dxa_app h2 h')
theorem dxa_set : ∀ {ds : List PyData} {vs : List V} {i : Nat} {v : V} {d : PyData}, DxAll K H ws vs ds → Dx K H ws v d → DxAll K H ws (vs.set i v) (ds.set i d)
  | [], _, _, _, _, h, _ => by
    cases h
    exact .nil
  | _ :: ds, _, 0, _, _, h, h' => by
    cases h with
    | cons h1 h2 => exact .cons h' h2
  | _ :: ds, _, i + 1, _, _, h, h' => by
    cases h with
    | cons h1 h2 => exact .cons h1 (dxa_set h2 h')
theorem dxa_take : ∀ {ds : List PyData} {vs : List V} (i : Nat), DxAll K H ws vs ds → DxAll K H ws (vs.take i) (ds.take i)
  | [], _, _, h => by
    cases h
    rw [List.take_nil, List.take_nil]
    exact .nil
  | _ :: ds, _, 0, h => by
    rw [List.take_zero, List.take_zero]
    exact .nil
  | _ :: ds, _, i + 1, h => by
    cases h with
    | cons h1 h2 => exact .cons h1 (dxa_take i h2)
theorem dxa_drop : ∀ {ds : List PyData} {vs : List V} (i : Nat), DxAll K H ws vs ds → DxAll K H ws (vs.drop i) (ds.drop i)
  | [], _, _, h => by
    cases h
    rw [List.drop_nil, List.drop_nil]
    exact .nil
  | _ :: ds, _, 0, h => h
  | _ :: ds, _, i + 1, h => by
    cases h with
    | cons h1 h2 => exact dxa_drop i h2
/-- data, or an empty dict -/
def Tg (K : PySem.W.Frag) (H : Hp) (ws : List Addr) (v : V) (d : PyData) : Prop := Dx K H ws v d ∨ (d = .dict [] ∧ ∃ a, v = .ref a ∧ H a = some (.dK []) ∧ a ∉ ws)
theorem Tg.kp {v : V} {d : PyData} (t : Tg K H ws v d) (k : Kp ws H H') : Tg K H' ws v d := by
  rcases t with h | ⟨rfl, a, rfl, h, n⟩
  · exact .inl (h.kp k _ _)
  · exact .inr ⟨rfl, a, rfl, k.at_ _ _ h n, n⟩
theorem Tg.ty {v : V} {d : PyData} (t : Tg K H ws v d) : TyX K H v (.type (dty d)) := by
  rcases t with h | ⟨rfl, a, rfl, h, n⟩
  · exact dp_ty (h.dp _ _)
  · exact .base (.dK h)
theorem i_isT {T : String} {b : Bool} {Q : VK} {v : V} {d : PyData} (t : Tg K H ws v d) (e : kitB (dty d) T = some b) (h : Q (.bl b) H) :
    rIsi K [v, .ty T] H Q := ⟨v, .ty T, _, _, b, rfl, .ty T, t.ty, L2.kit_ty e, h⟩
def kInt : PyData → Bool
  | .int _ => true
  | .bool _ => true
  | _ => false
def kBool : PyData → Bool
  | .bool _ => true
  | _ => false
def kTup : PyData → Bool
  | .tuple _ => true
  | _ => false
def kLst : PyData → Bool
  | .list _ => true
  | _ => false
theorem kit_int (d : PyData) : kitB (dty d) "int" = some (kInt d) := by cases d <;> (simp only [dty, kInt]; decide +kernel)
theorem kit_bool (d : PyData) : kitB (dty d) "bool" = some (kBool d) := by cases d <;> (simp only [dty, kBool]; decide +kernel)
theorem kit_tup (d : PyData) : kitB (dty d) "tuple" = some (kTup d) := by cases d <;> (simp only [dty, kTup]; decide +kernel)
theorem kit_lst (d : PyData) : kitB (dty d) "list" = some (kLst d) := by cases d <;> (simp only [dty, kLst]; decide +kernel)
theorem i_bool2 {b : Bool} {A B : Prop} (h1 : b = true → A) (h2 : b = false → B) : if b = true then A else B := by
  cases b
  · exact iteF (h2 rfl)
  · exact iteT (h1 rfl)
def isI : PyData → Bool
  | .int _ => true
  | _ => false
def whD (d : PyData) (a b : Int) : Bool :=
  match d with
  | .int n => decide (a ≤ n ∧ n ≤ b)
  | _ => false
theorem isI_eq (d : PyData) : isI d = (kInt d && !kBool d) := by cases d <;> rfl
theorem isI_int {d : PyData} (h : isI d = true) : ∃ n, d = .int n := by
  cases d with
  | int n => exact ⟨n, rfl⟩
  | _ => cases h
theorem whD_no {d : PyData} {a b : Int} (h : isI d = false) : whD d a b = false := by
  cases d with
  | int n => cases h
  | _ => rfl
theorem whD_int {d : PyData} {a b : Int} (h : whD d a b = true) : ∃ n, d = .int n ∧ a ≤ n ∧ n ≤ b := by
  cases d with
  | int n => exact ⟨n, rfl, of_decide_eq_true h⟩
  | _ => cases h
end

/-! ### numbers, asked of anything -/
def Any (K : PySem.W.Frag) (H : Hp) (v : V) (d : PyData) : Prop := TyX K H v (.type (dty d)) ∧ ∀ n, d = .int n → v = .int n
theorem Any.dp {K : PySem.W.Frag} {H : Hp} {v : V} {d : PyData} (h : Dp K H v d) : Any K H v d := ⟨dp_ty h, fun n e => by
  subst e
  cases h
  rfl⟩
theorem Any.int {K : PySem.W.Frag} {H : Hp} (n : Int) : Any K H (.int n) (.int n) := .dp (.int n)
theorem i_isA {K : PySem.W.Frag} {H : Hp} {T : String} {b : Bool} {Q : VK} {v : V} {d : PyData} (t : Any K H v d) (e : kitB (dty d) T = some b) (h : Q (.bl b) H) :
    rIsi K [v, .ty T] H Q := ⟨v, .ty T, _, _, b, rfl, .ty T, t.1, L2.kit_ty e, h⟩

def sp_is_number (K : PySem.W.Frag) : Sp := fun vs H Q _ => ∃ (v : V) (d : PyData), vs = [v] ∧ Any K H v d ∧ Q (.bl (isI d)) H
theorem sc_is_number : FnScope ["thing"] ["thing"] (defScope s_is_number) :=
  ⟨rfl, rfl, rfl, by decide +kernel, rfl, by decide +kernel, by decide +kernel⟩
theorem ok_is_number {P : Program} {w : World} {K : PySem.W.Frag} {mg : Str → Option Value} {base : Heap} (T : Txt w K mg) :
    FnG P w K mg base 1 T.a_is_number T.d_is_number ["thing"] (sp_is_number K) := by
  refine okD T.F_is_number sc_is_number (fun vs H Q E h => ?_) (fun cdv A outer s H vs Q E hr h => ?_)
  · first
      | (obtain ⟨_, rfl, _⟩ := h; rfl)
      | (obtain ⟨_, _, rfl, _⟩ := h; rfl)
      | (obtain ⟨_, _, _, rfl, _⟩ := h; rfl)
      | (obtain ⟨_, _, _, _, rfl, _⟩ := h; rfl)
      | (obtain ⟨_, _, _, _, _, rfl, _⟩ := h; rfl)
      | (obtain ⟨_, _, _, _, _, _, rfl, _⟩ := h; rfl)
      | (obtain ⟨_, _, _, _, _, _, _, rfl, _⟩ := h; rfl)
      | (obtain ⟨_, _, _, _, _, _, _, _, rfl, _⟩ := h; rfl)
      | (obtain ⟨_, _, _, _, _, _, _, _, _, rfl, _⟩ := h; rfl)
      | (obtain ⟨_, _, _, _, _, _, _, _, _, _, rfl, _⟩ := h; rfl)
      | (obtain ⟨_, _, _, _, _, _, _, _, _, _, _, rfl, _⟩ := h; rfl)
      | (obtain ⟨_, _, _, _, _, _, _, _, _, _, _, _, rfl, _⟩ := h; rfl)
      | (obtain ⟨_, _, _, _, _, _, _, _, _, _, _, _, _, rfl, _⟩ := h; rfl)
      | (obtain ⟨_, _, _, _, _, _, _, _, _, _, _, _, _, _, rfl, _⟩ := h; rfl)
      | (obtain ⟨_, _, _, _, _, _, _, _, _, _, _, _, _, _, _, rfl, _⟩ := h; rfl)
      | (obtain ⟨_, _, _, _, _, _, _, _, _, _, _, _, _, _, _, _, rfl, _⟩ := h; rfl)
      | (obtain ⟨_, _, _, _, _, _, _, _, _, _, _, _, _, _, _, _, _, rfl, _⟩ := h; rfl)
      | (obtain ⟨_, _, _, _, _, _, _, _, _, _, _, _, _, _, _, _, _, _, rfl, _⟩ := h; rfl)
      | (obtain ⟨_, _, _, _, _, _, _, _, _, _, _, _, _, _, _, _, _, _, _, rfl, _⟩ := h; rfl)
  · obtain ⟨v, d, rfl, hd, k⟩ := h
    rw [isI_eq] at k
    refine ⟨_, (pss_one (ps_ret (pe_and (pe_callB (k_isi (K := K) rfl) (by rfl) T.n_isinstance (by decide +kernel) (pa_cons (pv 0) (pa_cons (pe_bltn (v := .ty "int") (by rfl) T.n_int (by decide +kernel) rfl) pa_nil))) (pe_one (pe_not (pe_callB (k_isi (K := K) rfl) (by rfl) T.n_isinstance (by decide +kernel) (pa_cons (pv 0) (pa_cons (pe_bltn (v := .ty "bool") (by rfl) T.n_bool (by decide +kernel) rfl) pa_nil)))))))), ?_⟩
    dsimp only [cxOf, st_1, st_2, st_3, st_4, st_5, st_6, List.length_cons, List.length_nil, List.replicate_succ, List.replicate_zero, Nat.reduceAdd, Nat.reduceSub]
    walk_at "gs"
    refine i_isA hd (kit_int d) ?_
    walk_at "gs"
    refine i_bool2 (fun c => ?_) (fun c => ?_)
    · walk_at "gs"
      refine i_isA hd (kit_bool d) ?_
      walk_at "gs"
      rw [c, Bool.true_and] at k
      exact k
    · rw [c, Bool.false_and] at k
      exact k
theorem number_int {K : PySem.W.Frag} {n : Int} {H : Hp} {Q : VK} {E : XK} (h : Q (.bl true) H) : sp_is_number K [.int n] H Q E := ⟨.int n, .int n, rfl, .int n, h⟩
def sp_is_whole (K : PySem.W.Frag) : Sp := fun vs H Q _ => ∃ (v : V) (d : PyData) (a b : Int), vs = [v, .int a, .int b] ∧ Any K H v d ∧ Q (.bl (whD d a b)) H
theorem sc_is_whole : FnScope ["thing", "least", "most"] ["thing", "least", "most"] (defScope s_is_whole) :=
  ⟨rfl, rfl, rfl, by decide +kernel, rfl, by decide +kernel, by decide +kernel⟩
theorem ok_is_whole {P : Program} {w : World} {K : PySem.W.Frag} {mg : Str → Option Value} {base : Heap} (T : Txt w K mg) :
    FnG P w K mg base 2 T.a_is_whole T.d_is_whole ["thing", "least", "most"] (sp_is_whole K) := by
  refine okD T.F_is_whole sc_is_whole (fun vs H Q E h => ?_) (fun cdv A outer s H vs Q E hr h => ?_)
  · first
      | (obtain ⟨_, rfl, _⟩ := h; rfl)
      | (obtain ⟨_, _, rfl, _⟩ := h; rfl)
      | (obtain ⟨_, _, _, rfl, _⟩ := h; rfl)
      | (obtain ⟨_, _, _, _, rfl, _⟩ := h; rfl)
      | (obtain ⟨_, _, _, _, _, rfl, _⟩ := h; rfl)
      | (obtain ⟨_, _, _, _, _, _, rfl, _⟩ := h; rfl)
      | (obtain ⟨_, _, _, _, _, _, _, rfl, _⟩ := h; rfl)
      | (obtain ⟨_, _, _, _, _, _, _, _, rfl, _⟩ := h; rfl)
      | (obtain ⟨_, _, _, _, _, _, _, _, _, rfl, _⟩ := h; rfl)
      | (obtain ⟨_, _, _, _, _, _, _, _, _, _, rfl, _⟩ := h; rfl)
      | (obtain ⟨_, _, _, _, _, _, _, _, _, _, _, rfl, _⟩ := h; rfl)
      | (obtain ⟨_, _, _, _, _, _, _, _, _, _, _, _, rfl, _⟩ := h; rfl)
      | (obtain ⟨_, _, _, _, _, _, _, _, _, _, _, _, _, rfl, _⟩ := h; rfl)
      | (obtain ⟨_, _, _, _, _, _, _, _, _, _, _, _, _, _, rfl, _⟩ := h; rfl)
      | (obtain ⟨_, _, _, _, _, _, _, _, _, _, _, _, _, _, _, rfl, _⟩ := h; rfl)
      | (obtain ⟨_, _, _, _, _, _, _, _, _, _, _, _, _, _, _, _, rfl, _⟩ := h; rfl)
      | (obtain ⟨_, _, _, _, _, _, _, _, _, _, _, _, _, _, _, _, _, rfl, _⟩ := h; rfl)
      | (obtain ⟨_, _, _, _, _, _, _, _, _, _, _, _, _, _, _, _, _, _, rfl, _⟩ := h; rfl)
      | (obtain ⟨_, _, _, _, _, _, _, _, _, _, _, _, _, _, _, _, _, _, _, rfl, _⟩ := h; rfl)
  · obtain ⟨v, d, a, b, rfl, hd, k⟩ := h
    refine ⟨_, (pss_one (ps_ret (pe_and (d1 (ok_is_number T) (hr.mono (by decide)) (by rfl) T.m_is_number T.F_is_number.kp T.b_is_number passL (pa_cons (pv 0) pa_nil)) (pe_one (pe_chain op_le op_le (pv 1) (pv 0) (pv 2)))))), ?_⟩
    dsimp only [cxOf, st_1, st_2, st_3, st_4, st_5, st_6, List.length_cons, List.length_nil, List.replicate_succ, List.replicate_zero, Nat.reduceAdd, Nat.reduceSub]
    walk_at "gs"
    refine ⟨v, d, rfl, hd, ?_⟩
    walk_at "gs"
    refine i_bool2 (fun c => ?_) (fun c => ?_)
    · obtain ⟨n, rfl⟩ := isI_int c
      obtain rfl := hd.2 n rfl
      walk_at "gs"
      refine i_dec (fun c => ?_) (fun c => ?_)
      · walk_at "gs"
        have e : decide (n ≤ b) = whD (.int n) a b := by simp only [whD, c, true_and]
        rw [e]
        exact k
      · have e : false = whD (.int n) a b := by simp only [whD, c, false_and, decide_false]
        rw [e]
        exact k
    · rw [whD_no c] at k
      exact k
theorem whole_int {K : PySem.W.Frag} {n a b : Int} {H : Hp} {Q : VK} {E : XK} (h : Q (.bl (decide (a ≤ n ∧ n ≤ b))) H) : sp_is_whole K [.int n, .int a, .int b] H Q E := ⟨.int n, .int n, a, b, rfl, .int n, h⟩
def sp_is_size (K : PySem.W.Frag) : Sp := fun vs H Q _ => ∃ (v : V) (d : PyData), vs = [v] ∧ Any K H v d ∧ Q (.bl (whD d 1 1000000000000000000)) H
theorem sc_is_size : FnScope ["thing"] ["thing"] (defScope s_is_size) :=
  ⟨rfl, rfl, rfl, by decide +kernel, rfl, by decide +kernel, by decide +kernel⟩
theorem ok_is_size {P : Program} {w : World} {K : PySem.W.Frag} {mg : Str → Option Value} {base : Heap} (T : Txt w K mg) :
    FnG P w K mg base 3 T.a_is_size T.d_is_size ["thing"] (sp_is_size K) := by
  refine okD T.F_is_size sc_is_size (fun vs H Q E h => ?_) (fun cdv A outer s H vs Q E hr h => ?_)
  · first
      | (obtain ⟨_, rfl, _⟩ := h; rfl)
      | (obtain ⟨_, _, rfl, _⟩ := h; rfl)
      | (obtain ⟨_, _, _, rfl, _⟩ := h; rfl)
      | (obtain ⟨_, _, _, _, rfl, _⟩ := h; rfl)
      | (obtain ⟨_, _, _, _, _, rfl, _⟩ := h; rfl)
      | (obtain ⟨_, _, _, _, _, _, rfl, _⟩ := h; rfl)
      | (obtain ⟨_, _, _, _, _, _, _, rfl, _⟩ := h; rfl)
      | (obtain ⟨_, _, _, _, _, _, _, _, rfl, _⟩ := h; rfl)
      | (obtain ⟨_, _, _, _, _, _, _, _, _, rfl, _⟩ := h; rfl)
      | (obtain ⟨_, _, _, _, _, _, _, _, _, _, rfl, _⟩ := h; rfl)
      | (obtain ⟨_, _, _, _, _, _, _, _, _, _, _, rfl, _⟩ := h; rfl)
      | (obtain ⟨_, _, _, _, _, _, _, _, _, _, _, _, rfl, _⟩ := h; rfl)
      | (obtain ⟨_, _, _, _, _, _, _, _, _, _, _, _, _, rfl, _⟩ := h; rfl)
      | (obtain ⟨_, _, _, _, _, _, _, _, _, _, _, _, _, _, rfl, _⟩ := h; rfl)
      | (obtain ⟨_, _, _, _, _, _, _, _, _, _, _, _, _, _, _, rfl, _⟩ := h; rfl)
      | (obtain ⟨_, _, _, _, _, _, _, _, _, _, _, _, _, _, _, _, rfl, _⟩ := h; rfl)
      | (obtain ⟨_, _, _, _, _, _, _, _, _, _, _, _, _, _, _, _, _, rfl, _⟩ := h; rfl)
      | (obtain ⟨_, _, _, _, _, _, _, _, _, _, _, _, _, _, _, _, _, _, rfl, _⟩ := h; rfl)
      | (obtain ⟨_, _, _, _, _, _, _, _, _, _, _, _, _, _, _, _, _, _, _, rfl, _⟩ := h; rfl)
  · obtain ⟨v, d, rfl, hd, k⟩ := h
    refine ⟨_, (pss_one (ps_ret (d1 (ok_is_whole T) (hr.mono (by decide)) (by rfl) T.m_is_whole T.F_is_whole.kp T.b_is_whole passL (pa_cons (pv 0) (pa_cons pe_int (pa_cons (pe_glob (v := V.int 1000000000000000000) rfl T.g_LARGEST ⟨_, rfl⟩) pa_nil)))))), ?_⟩
    dsimp only [cxOf, st_1, st_2, st_3, st_4, st_5, st_6, List.length_cons, List.length_nil, List.replicate_succ, List.replicate_zero, Nat.reduceAdd, Nat.reduceSub]
    walk_at "gs"
    exact ⟨v, d, 1, _, rfl, hd, k⟩
theorem size_int {K : PySem.W.Frag} {n : Int} {H : Hp} {Q : VK} {E : XK} (h : Q (.bl (decide (1 ≤ n ∧ n ≤ 1000000000000000000))) H) : sp_is_size K [.int n] H Q E := ⟨.int n, .int n, rfl, .int n, h⟩
def sp_want_size : Sp := fun vs H Q _ => ∃ n : Int, vs = [.int n] ∧ (1 ≤ n ∧ n ≤ 1000000000000000000) ∧ Q .non H
theorem sc_want_size : FnScope ["thing"] ["thing"] (defScope s_want_size) :=
  ⟨rfl, rfl, rfl, by decide +kernel, rfl, by decide +kernel, by decide +kernel⟩
theorem ok_want_size {P : Program} {w : World} {K : PySem.W.Frag} {mg : Str → Option Value} {base : Heap} (T : Txt w K mg) :
    FnG P w K mg base 4 T.a_want_size T.d_want_size ["thing"] sp_want_size := by
  refine okD T.F_want_size sc_want_size (fun vs H Q E h => ?_) (fun cdv A outer s H vs Q E hr h => ?_)
  · first
      | (obtain ⟨_, rfl, _⟩ := h; rfl)
      | (obtain ⟨_, _, rfl, _⟩ := h; rfl)
      | (obtain ⟨_, _, _, rfl, _⟩ := h; rfl)
      | (obtain ⟨_, _, _, _, rfl, _⟩ := h; rfl)
      | (obtain ⟨_, _, _, _, _, rfl, _⟩ := h; rfl)
      | (obtain ⟨_, _, _, _, _, _, rfl, _⟩ := h; rfl)
      | (obtain ⟨_, _, _, _, _, _, _, rfl, _⟩ := h; rfl)
      | (obtain ⟨_, _, _, _, _, _, _, _, rfl, _⟩ := h; rfl)
      | (obtain ⟨_, _, _, _, _, _, _, _, _, rfl, _⟩ := h; rfl)
      | (obtain ⟨_, _, _, _, _, _, _, _, _, _, rfl, _⟩ := h; rfl)
      | (obtain ⟨_, _, _, _, _, _, _, _, _, _, _, rfl, _⟩ := h; rfl)
      | (obtain ⟨_, _, _, _, _, _, _, _, _, _, _, _, rfl, _⟩ := h; rfl)
      | (obtain ⟨_, _, _, _, _, _, _, _, _, _, _, _, _, rfl, _⟩ := h; rfl)
      | (obtain ⟨_, _, _, _, _, _, _, _, _, _, _, _, _, _, rfl, _⟩ := h; rfl)
      | (obtain ⟨_, _, _, _, _, _, _, _, _, _, _, _, _, _, _, rfl, _⟩ := h; rfl)
      | (obtain ⟨_, _, _, _, _, _, _, _, _, _, _, _, _, _, _, _, rfl, _⟩ := h; rfl)
      | (obtain ⟨_, _, _, _, _, _, _, _, _, _, _, _, _, _, _, _, _, rfl, _⟩ := h; rfl)
      | (obtain ⟨_, _, _, _, _, _, _, _, _, _, _, _, _, _, _, _, _, _, rfl, _⟩ := h; rfl)
      | (obtain ⟨_, _, _, _, _, _, _, _, _, _, _, _, _, _, _, _, _, _, _, rfl, _⟩ := h; rfl)
  · obtain ⟨n, rfl, z, k⟩ := h
    refine ⟨_, (pss_one (ps_if (pt_not (pt_val (d1 (ok_is_size T) (hr.mono (by decide)) (by rfl) T.m_is_size T.F_is_size.kp T.b_is_size passL (pa_cons (pv 0) pa_nil)))) (pss_one ps_never) pss_nil)), ?_⟩
    dsimp only [cxOf, st_1, st_2, st_3, st_4, st_5, st_6, List.length_cons, List.length_nil, List.replicate_succ, List.replicate_zero, Nat.reduceAdd, Nat.reduceSub]
    walk_at "gs"
    refine size_int ?_
    walk_at "gs"
    refine i_decN (fun c => absurd z c) (fun _ => ?_)
    walk_at "gs"
    exact k
def sp_want_number : Sp := fun vs H Q _ => ∃ n : Int, vs = [.int n] ∧ Q .non H
theorem sc_want_number : FnScope ["thing"] ["thing"] (defScope s_want_number) :=
  ⟨rfl, rfl, rfl, by decide +kernel, rfl, by decide +kernel, by decide +kernel⟩
theorem ok_want_number {P : Program} {w : World} {K : PySem.W.Frag} {mg : Str → Option Value} {base : Heap} (T : Txt w K mg) :
    FnG P w K mg base 2 T.a_want_number T.d_want_number ["thing"] sp_want_number := by
  refine okD T.F_want_number sc_want_number (fun vs H Q E h => ?_) (fun cdv A outer s H vs Q E hr h => ?_)
  · first
      | (obtain ⟨_, rfl, _⟩ := h; rfl)
      | (obtain ⟨_, _, rfl, _⟩ := h; rfl)
      | (obtain ⟨_, _, _, rfl, _⟩ := h; rfl)
      | (obtain ⟨_, _, _, _, rfl, _⟩ := h; rfl)
      | (obtain ⟨_, _, _, _, _, rfl, _⟩ := h; rfl)
      | (obtain ⟨_, _, _, _, _, _, rfl, _⟩ := h; rfl)
      | (obtain ⟨_, _, _, _, _, _, _, rfl, _⟩ := h; rfl)
      | (obtain ⟨_, _, _, _, _, _, _, _, rfl, _⟩ := h; rfl)
      | (obtain ⟨_, _, _, _, _, _, _, _, _, rfl, _⟩ := h; rfl)
      | (obtain ⟨_, _, _, _, _, _, _, _, _, _, rfl, _⟩ := h; rfl)
      | (obtain ⟨_, _, _, _, _, _, _, _, _, _, _, rfl, _⟩ := h; rfl)
      | (obtain ⟨_, _, _, _, _, _, _, _, _, _, _, _, rfl, _⟩ := h; rfl)
      | (obtain ⟨_, _, _, _, _, _, _, _, _, _, _, _, _, rfl, _⟩ := h; rfl)
      | (obtain ⟨_, _, _, _, _, _, _, _, _, _, _, _, _, _, rfl, _⟩ := h; rfl)
      | (obtain ⟨_, _, _, _, _, _, _, _, _, _, _, _, _, _, _, rfl, _⟩ := h; rfl)
      | (obtain ⟨_, _, _, _, _, _, _, _, _, _, _, _, _, _, _, _, rfl, _⟩ := h; rfl)
      | (obtain ⟨_, _, _, _, _, _, _, _, _, _, _, _, _, _, _, _, _, rfl, _⟩ := h; rfl)
      | (obtain ⟨_, _, _, _, _, _, _, _, _, _, _, _, _, _, _, _, _, _, rfl, _⟩ := h; rfl)
      | (obtain ⟨_, _, _, _, _, _, _, _, _, _, _, _, _, _, _, _, _, _, _, rfl, _⟩ := h; rfl)
  · obtain ⟨n, rfl, k⟩ := h
    refine ⟨_, (pss_one (ps_if (pt_not (pt_val (d1 (ok_is_number T) (hr.mono (by decide)) (by rfl) T.m_is_number T.F_is_number.kp T.b_is_number passL (pa_cons (pv 0) pa_nil)))) (pss_one ps_never) pss_nil)), ?_⟩
    dsimp only [cxOf, st_1, st_2, st_3, st_4, st_5, st_6, List.length_cons, List.length_nil, List.replicate_succ, List.replicate_zero, Nat.reduceAdd, Nat.reduceSub]
    walk_at "gs"
    refine number_int ?_
    walk_at "gs"
    exact k
def sp_want_cell : Sp := fun vs H Q _ => ∃ c n : Int, vs = [.int c, .int n] ∧ (0 ≤ c ∧ c < n) ∧ Q .non H
theorem sc_want_cell : FnScope ["thing", "size"] ["thing", "size"] (defScope s_want_cell) :=
  ⟨rfl, rfl, rfl, by decide +kernel, rfl, by decide +kernel, by decide +kernel⟩
theorem ok_want_cell {P : Program} {w : World} {K : PySem.W.Frag} {mg : Str → Option Value} {base : Heap} (T : Txt w K mg) :
    FnG P w K mg base 3 T.a_want_cell T.d_want_cell ["thing", "size"] sp_want_cell := by
  refine okD T.F_want_cell sc_want_cell (fun vs H Q E h => ?_) (fun cdv A outer s H vs Q E hr h => ?_)
  · first
      | (obtain ⟨_, rfl, _⟩ := h; rfl)
      | (obtain ⟨_, _, rfl, _⟩ := h; rfl)
      | (obtain ⟨_, _, _, rfl, _⟩ := h; rfl)
      | (obtain ⟨_, _, _, _, rfl, _⟩ := h; rfl)
      | (obtain ⟨_, _, _, _, _, rfl, _⟩ := h; rfl)
      | (obtain ⟨_, _, _, _, _, _, rfl, _⟩ := h; rfl)
      | (obtain ⟨_, _, _, _, _, _, _, rfl, _⟩ := h; rfl)
      | (obtain ⟨_, _, _, _, _, _, _, _, rfl, _⟩ := h; rfl)
      | (obtain ⟨_, _, _, _, _, _, _, _, _, rfl, _⟩ := h; rfl)
      | (obtain ⟨_, _, _, _, _, _, _, _, _, _, rfl, _⟩ := h; rfl)
      | (obtain ⟨_, _, _, _, _, _, _, _, _, _, _, rfl, _⟩ := h; rfl)
      | (obtain ⟨_, _, _, _, _, _, _, _, _, _, _, _, rfl, _⟩ := h; rfl)
      | (obtain ⟨_, _, _, _, _, _, _, _, _, _, _, _, _, rfl, _⟩ := h; rfl)
      | (obtain ⟨_, _, _, _, _, _, _, _, _, _, _, _, _, _, rfl, _⟩ := h; rfl)
      | (obtain ⟨_, _, _, _, _, _, _, _, _, _, _, _, _, _, _, rfl, _⟩ := h; rfl)
      | (obtain ⟨_, _, _, _, _, _, _, _, _, _, _, _, _, _, _, _, rfl, _⟩ := h; rfl)
      | (obtain ⟨_, _, _, _, _, _, _, _, _, _, _, _, _, _, _, _, _, rfl, _⟩ := h; rfl)
      | (obtain ⟨_, _, _, _, _, _, _, _, _, _, _, _, _, _, _, _, _, _, rfl, _⟩ := h; rfl)
      | (obtain ⟨_, _, _, _, _, _, _, _, _, _, _, _, _, _, _, _, _, _, _, rfl, _⟩ := h; rfl)
  · obtain ⟨c, n, rfl, z, k⟩ := h
    refine ⟨_, (pss_one (ps_if (pt_not (pt_val (d1 (ok_is_whole T) (hr.mono (by decide)) (by rfl) T.m_is_whole T.F_is_whole.kp T.b_is_whole passL (pa_cons (pv 0) (pa_cons pe_int (pa_cons (pe_op op_sub (pv 1) pe_int) pa_nil)))))) (pss_one ps_never) pss_nil)), ?_⟩
    dsimp only [cxOf, st_1, st_2, st_3, st_4, st_5, st_6, List.length_cons, List.length_nil, List.replicate_succ, List.replicate_zero, Nat.reduceAdd, Nat.reduceSub]
    walk_at "gs"
    refine whole_int ?_
    walk_at "gs"
    refine i_decN (fun d => absurd (by omega) d) (fun _ => ?_)
    walk_at "gs"
    exact k

def sp_want_stretch : Sp := fun vs H Q _ => ∃ b e n : Int, vs = [.int b, .int e, .int n] ∧ (0 ≤ b ∧ b ≤ e ∧ e ≤ n) ∧ Q .non H
theorem sc_want_stretch : FnScope ["begin", "end", "size"] ["begin", "end", "size"] (defScope s_want_stretch) :=
  ⟨rfl, rfl, rfl, by decide +kernel, rfl, by decide +kernel, by decide +kernel⟩
theorem ok_want_stretch {P : Program} {w : World} {K : PySem.W.Frag} {mg : Str → Option Value} {base : Heap} (T : Txt w K mg) :
    FnG P w K mg base 3 T.a_want_stretch T.d_want_stretch ["begin", "end", "size"] sp_want_stretch := by
  refine okD T.F_want_stretch sc_want_stretch (fun vs H Q E h => ?_) (fun cdv A outer s H vs Q E hr h => ?_)
  · first
      | (obtain ⟨_, rfl, _⟩ := h; rfl)
      | (obtain ⟨_, _, rfl, _⟩ := h; rfl)
      | (obtain ⟨_, _, _, rfl, _⟩ := h; rfl)
      | (obtain ⟨_, _, _, _, rfl, _⟩ := h; rfl)
      | (obtain ⟨_, _, _, _, _, rfl, _⟩ := h; rfl)
      | (obtain ⟨_, _, _, _, _, _, rfl, _⟩ := h; rfl)
      | (obtain ⟨_, _, _, _, _, _, _, rfl, _⟩ := h; rfl)
      | (obtain ⟨_, _, _, _, _, _, _, _, rfl, _⟩ := h; rfl)
      | (obtain ⟨_, _, _, _, _, _, _, _, _, rfl, _⟩ := h; rfl)
      | (obtain ⟨_, _, _, _, _, _, _, _, _, _, rfl, _⟩ := h; rfl)
      | (obtain ⟨_, _, _, _, _, _, _, _, _, _, _, rfl, _⟩ := h; rfl)
      | (obtain ⟨_, _, _, _, _, _, _, _, _, _, _, _, rfl, _⟩ := h; rfl)
      | (obtain ⟨_, _, _, _, _, _, _, _, _, _, _, _, _, rfl, _⟩ := h; rfl)
      | (obtain ⟨_, _, _, _, _, _, _, _, _, _, _, _, _, _, rfl, _⟩ := h; rfl)
      | (obtain ⟨_, _, _, _, _, _, _, _, _, _, _, _, _, _, _, rfl, _⟩ := h; rfl)
      | (obtain ⟨_, _, _, _, _, _, _, _, _, _, _, _, _, _, _, _, rfl, _⟩ := h; rfl)
      | (obtain ⟨_, _, _, _, _, _, _, _, _, _, _, _, _, _, _, _, _, rfl, _⟩ := h; rfl)
      | (obtain ⟨_, _, _, _, _, _, _, _, _, _, _, _, _, _, _, _, _, _, rfl, _⟩ := h; rfl)
      | (obtain ⟨_, _, _, _, _, _, _, _, _, _, _, _, _, _, _, _, _, _, _, rfl, _⟩ := h; rfl)
  · obtain ⟨b, e, n, rfl, z, k⟩ := h
    refine ⟨_, (pss_one (ps_if (PW.pt (pw_or (pt_not (pt_val (d1 (ok_is_whole T) (hr.mono (by decide)) (by rfl) T.m_is_whole T.F_is_whole.kp T.b_is_whole passL (pa_cons (pv 0) (pa_cons pe_int (pa_cons (pv 2) pa_nil)))))) (pw_or1 (pt_not (pt_val (d1 (ok_is_whole T) (hr.mono (by decide)) (by rfl) T.m_is_whole T.F_is_whole.kp T.b_is_whole passL (pa_cons (pv 1) (pa_cons (pv 0) (pa_cons (pv 2) pa_nil))))))))) (pss_one ps_never) pss_nil)), ?_⟩
    dsimp only [cxOf, st_1, st_2, st_3, st_4, st_5, st_6, List.length_cons, List.length_nil, List.replicate_succ, List.replicate_zero, Nat.reduceAdd, Nat.reduceSub]
    walk_at "gs"
    refine whole_int ?_
    walk_at "gs"
    refine i_decN (fun d => absurd (by omega) d) (fun _ => ?_)
    walk_at "gs"
    refine whole_int ?_
    walk_at "gs"
    refine i_decN (fun d => absurd (by omega) d) (fun _ => ?_)
    walk_at "gs"
    exact k

/-! ### cutting out -/
def sp_cut_out (K : PySem.W.Frag) : Sp := fun vs H Q _ => ∃ (a : Addr) (b e : Int) (ps : List (Int × Int)),
  vs = [.ref a, .int b, .int e] ∧ Dp K H (.ref a) (.list (ps.map d2)) ∧ ps.length ≤ 100000 ∧
  ∀ l H', Fr H l → Kp [] H H' → LD K H' l ((cut b e ps).map d2) → Q (.ref l) H'
theorem sc_cut_out : FnScope ["pairs", "begin", "end", "found", "at", "many", "number", "low", "high"] ["pairs", "begin", "end"] (defScope s_cut_out) :=
  ⟨rfl, rfl, rfl, by decide +kernel, rfl, by decide +kernel, by decide +kernel⟩
theorem ok_cut_out {P : Program} {w : World} {K : PySem.W.Frag} {mg : Str → Option Value} {base : Heap} (T : Txt w K mg) :
    FnG P w K mg base 1 T.a_cut_out T.d_cut_out ["pairs", "begin", "end"] (sp_cut_out K) := by
  refine okD T.F_cut_out sc_cut_out (fun vs H Q E h => ?_) (fun cdv A outer s H vs Q E hr h => ?_)
  · first
      | (obtain ⟨_, rfl, _⟩ := h; rfl)
      | (obtain ⟨_, _, rfl, _⟩ := h; rfl)
      | (obtain ⟨_, _, _, rfl, _⟩ := h; rfl)
      | (obtain ⟨_, _, _, _, rfl, _⟩ := h; rfl)
      | (obtain ⟨_, _, _, _, _, rfl, _⟩ := h; rfl)
      | (obtain ⟨_, _, _, _, _, _, rfl, _⟩ := h; rfl)
      | (obtain ⟨_, _, _, _, _, _, _, rfl, _⟩ := h; rfl)
      | (obtain ⟨_, _, _, _, _, _, _, _, rfl, _⟩ := h; rfl)
      | (obtain ⟨_, _, _, _, _, _, _, _, _, rfl, _⟩ := h; rfl)
      | (obtain ⟨_, _, _, _, _, _, _, _, _, _, rfl, _⟩ := h; rfl)
      | (obtain ⟨_, _, _, _, _, _, _, _, _, _, _, rfl, _⟩ := h; rfl)
      | (obtain ⟨_, _, _, _, _, _, _, _, _, _, _, _, rfl, _⟩ := h; rfl)
      | (obtain ⟨_, _, _, _, _, _, _, _, _, _, _, _, _, rfl, _⟩ := h; rfl)
      | (obtain ⟨_, _, _, _, _, _, _, _, _, _, _, _, _, _, rfl, _⟩ := h; rfl)
      | (obtain ⟨_, _, _, _, _, _, _, _, _, _, _, _, _, _, _, rfl, _⟩ := h; rfl)
      | (obtain ⟨_, _, _, _, _, _, _, _, _, _, _, _, _, _, _, _, rfl, _⟩ := h; rfl)
      | (obtain ⟨_, _, _, _, _, _, _, _, _, _, _, _, _, _, _, _, _, rfl, _⟩ := h; rfl)
      | (obtain ⟨_, _, _, _, _, _, _, _, _, _, _, _, _, _, _, _, _, _, rfl, _⟩ := h; rfl)
      | (obtain ⟨_, _, _, _, _, _, _, _, _, _, _, _, _, _, _, _, _, _, _, rfl, _⟩ := h; rfl)
  · obtain ⟨a, b, e, ps, rfl, ha, hps, k⟩ := h
    cases ha
    rename_i xs hsq hall
    have hlen := dpa_len hall
    rw [List.length_map] at hlen
    have cl_Memory := T.cl_Memory
    have na_Memory_pairs := T.na_Memory_pairs
    have na_Memory_wide := T.na_Memory_wide
    have cl_Lone := T.cl_Lone
    have na_Lone_all_rows := T.na_Lone_all_rows
    have na_Lone_cells := T.na_Lone_cells
    have na_Lone_next_row := T.na_Lone_next_row
    have na_Lone_numbers := T.na_Lone_numbers
    have na_Lone_rested := T.na_Lone_rested
    have cl_Program := T.cl_Program
    have na_Program_own_rows := T.na_Program_own_rows
    have na_Program_own_size := T.na_Program_own_size
    refine ⟨_, (pss_cons (ps_set (i := 3) sc_cut_out.nd rfl (Or.inl rfl) (pe_lst pa_nil))
      (pss_cons (ps_set (i := 4) sc_cut_out.nd rfl (Or.inl rfl) pe_int)
      (pss_cons (ps_for (passes_of rfl) rfl (k_plist (K := K) rfl (pv 0)) (k_gtup (K := K) 2 rfl rfl (pgs_cons (pg_name (i := 5) sc_cut_out.nd rfl (Or.inl rfl)) (pgs_cons (pg_name (i := 6) sc_cut_out.nd rfl (Or.inl rfl)) pgs_nil)))
      (pss_cons (ps_par (i := 7) (j := 8) (by rfl) sc_cut_out.nd rfl rfl (by decide) rfl rfl (pa_cons (pe_callB (c_max2 rfl) (by rfl) T.n_max (by decide +kernel) (pa_cons (pv 1) (pa_cons (pv 4) pa_nil))) (pa_cons (pe_callB (c_min2 rfl) (by rfl) T.n_min (by decide +kernel) (pa_cons (pv 2) (pa_cons (pe_op (k_add (K := K) rfl) (pv 4) (pv 5)) pa_nil))) pa_nil)) (by rfl))
      (pss_cons (ps_if (pt_cmpR op_lt (pv 7) (pv 8) (nomark _)) (pss_one (ps_expr (pe_bm PySem.F.plainAttrs_list PySem.F.slot_list_append PySem.F.type_list_append mt_append (pv 3) (pa_cons (pe_tup (pa_cons (pe_op op_sub (pv 8) (pv 7)) (pa_cons (pv 6) pa_nil))) pa_nil)))) pss_nil)
      (pss_one (ps_aug (i := 4) sc_cut_out.nd rfl (Or.inl rfl) (pv 5) ip_add)))))
      (pss_one (ps_ret (pv 3)))))), ?_⟩
    dsimp only [cxOf, st_1, st_2, st_3, st_4, st_5, st_6, List.length_cons, List.length_nil, List.replicate_succ, List.replicate_zero, Nat.reduceAdd, Nat.reduceSub]
    walk_at "gs"
    refine i_new fun l hl => ?_
    walk_at "gs"
    refine i_each ((Kp.new hl).seqL (ws := []) List.not_mem_nil hsq) (fun i σ H' => ∃ u v w x, σ = [some (.ref a), some (.int b), some (.int e), some (.ref l), some (.int (wide (ps.take i))), u, v, w, x] ∧ Kp [] H H' ∧
      LD K H' l ((cut b e (ps.take i)).map d2)) ?_ ?_ ?_ ?_
    · exact ⟨none, none, none, none, rfl, Kp.new hl, ⟨[], upd_same, .nil⟩⟩
    · rintro i σ H' _ ⟨u, v, w, x, rfl, kp, ld⟩
      exact kp.seqL List.not_mem_nil hsq
    · rintro i x σ H' hx ⟨u, v, w, y, rfl, kp, ld⟩
      obtain ⟨d, hd, hdp⟩ := dpa_getV hall hx
      obtain ⟨p, hp, rfl⟩ := map_get hd
      obtain ⟨pa, rfl, hpt⟩ := dp_pair hdp
      replace hpt := kp.seqT hpt
      obtain ⟨vs, hvs, hall2⟩ := id ld
      have hvl := dpa_len hall2
      rw [List.length_map] at hvl
      have hcl := cut_len b e (ps.take i)
      rw [List.length_take] at hcl
      have hil : i < ps.length := (List.getElem?_eq_some_iff.mp hp).1
      walk_at "gs"
      refine i_dec (fun c => ?_) (fun c => ?_)
      · walk_at "gs"
        refine i_new fun t ht => ?_
        walk_at "gs"
        rw [wide_take hp, cut_take hp, if_pos c, List.map_append]
        refine ⟨_, _, _, _, rfl, by walk_at "g_kp", ?_⟩
        exact ld_push (ws := [l]) (H0 := H') (by walk_at "g_kp") hall2 (imms_d2 _) upd_same (dp_mk2 (m := min e (wide (ps.take i) + p.1) - max b (wide (ps.take i))) (n := p.2) (by walk_at "g_st"))
      · walk_at "gs"
        rw [wide_take hp, cut_take hp, if_neg c, List.append_nil]
        exact ⟨_, _, _, _, rfl, kp, ld⟩
    · rintro σ H' ⟨u, v, w, x, rfl, kp, ld⟩
      walk_at "gs"
      rw [List.take_of_length_le (by omega)] at ld
      exact k l H' hl kp ld

/-! ### comprehensions that change nothing -/
theorem dpa_tail {K : PySem.W.Frag} {H : Hp} : ∀ {ds : List PyData} {vs : List V}, DpAll K H vs ds → DpAll K H vs.tail ds.tail
  | [], _, h => by cases h; exact .nil
  | _ :: _, _, h => by
    cases h with
    | cons _ h2 => exact h2
section
variable {K : PySem.W.Frag} {σ : L2.St} {H : Hp} {Q : VK} {a b : Addr} {xs ys us : List V} {g : TG} {te : TE} {vs : List Nat} {ds : List PyData}
theorem i_mapL (hs : SqL K H a xs) (ys : List V) (hl : ys.length = xs.length) (hz : xs.length ≤ 1000000)
    (st : ∀ (D : Addr) (i : Nat) (x y : V) (H' : Hp) (Q' : VK), Fr H D → xs[i]? = some x → ys[i]? = some y → Kp [] H H' → (∀ H4, Kp [] H' H4 → Q' y H4) →
      g x (wipe σ vs) H' fun σ2 H2 => wipe σ2 vs = wipe σ vs ∧ te σ2 H2 Q')
    (hd : ∀ D H', Fr H D → Kp [] H H' → H' D = some (.lst ys) → Q (.ref D) H') : LcL K (.ref a) g tYes te vs σ H Q := by
  refine i_elts hs (fun D i H' => Kp [] H H' ∧ H' D = some (.lst (ys.take i))) (fun D fD => ⟨Kp.new fD, by rw [List.take_zero]; exact upd_same⟩)
    (fun D i H' _ _ z => z.1.seqL not_nil hs) ?_ ?_
  · rintro D i x H' fD hx ⟨k, e⟩
    have hi := (List.getElem?_eq_some_iff.mp hx).1
    obtain ⟨y, hy⟩ : ∃ y, ys[i]? = some y := ⟨_, List.getElem?_eq_getElem (by omega)⟩
    have q := st D i x y H' (fun y' H4 => ∃ acc, H4 D = some (.lst acc) ∧ acc.length < sizeLine ∧
      (Kp [] H (upd H4 D (.lst (acc ++ [y']))) ∧ upd H4 D (.lst (acc ++ [y'])) D = some (.lst (ys.take (i + 1))))) fD hx hy k (fun H4 k4 => by
        refine ⟨_, k4.at_ _ _ e not_nil, small_sz (by rw [List.length_take]; omega), Kp.upd (Kp.trans k k4) fD, ?_⟩
        rw [List.take_add_one, hy]
        exact upd_same)
    exact q
  · rintro D H' fD ⟨k, e⟩
    rw [List.take_of_length_le (by omega)] at e
    exact hd D H' fD k e
theorem i_mapD (hs : SqL K H a xs) (ds : List PyData) (hi : imms ds = true) (hl : ds.length = xs.length) (hz : xs.length ≤ 1000000)
    (st : ∀ (D : Addr) (i : Nat) (x : V) (d : PyData) (H' : Hp) (Q' : VK), Fr H D → xs[i]? = some x → ds[i]? = some d → Kp [] H H' → (∀ y H4, Kp [] H' H4 → Dp K H4 y d → Q' y H4) →
      g x (wipe σ vs) H' fun σ2 H2 => wipe σ2 vs = wipe σ vs ∧ te σ2 H2 Q')
    (hd : ∀ D H', Fr H D → Kp [] H H' → LD K H' D ds → Q (.ref D) H') : LcL K (.ref a) g tYes te vs σ H Q := by
  have imt : ∀ (l : List PyData) i, imms l = true → imms (l.take i) = true := by
    intro l
    induction l with
    | nil => intro i h; rw [List.take_nil]; rfl
    | cons d l ih =>
      intro i h
      simp only [imms, Bool.and_eq_true] at h
      cases i with
      | zero => rfl
      | succ i =>
        rw [List.take_succ_cons]
        simp only [imms, Bool.and_eq_true]
        exact ⟨h.1, ih i h.2⟩
  have img : ∀ (l : List PyData) (i : Nat) (d : PyData), imms l = true → l[i]? = some d → imm d = true := by
    intro l
    induction l with
    | nil => intro i d _ e; cases e
    | cons d0 l ih =>
      intro i d h e
      simp only [imms, Bool.and_eq_true] at h
      cases i with
      | zero => cases e; exact h.1
      | succ i => exact ih i d h.2 e
  refine i_elts hs (fun D i H' => Kp [] H H' ∧ LD K H' D (ds.take i)) (fun D fD => ⟨Kp.new fD, [], upd_same, by rw [List.take_zero]; exact .nil⟩)
    (fun D i H' _ _ z => z.1.seqL not_nil hs) ?_ ?_
  · rintro D i x H' fD hx ⟨k, ld⟩
    have hi2 := (List.getElem?_eq_some_iff.mp hx).1
    obtain ⟨d, hd2⟩ : ∃ d, ds[i]? = some d := ⟨_, List.getElem?_eq_getElem (by omega)⟩
    have q := st D i x d H' (fun y' H4 => ∃ acc, H4 D = some (.lst acc) ∧ acc.length < sizeLine ∧
      (Kp [] H (upd H4 D (.lst (acc ++ [y']))) ∧ LD K (upd H4 D (.lst (acc ++ [y']))) D (ds.take (i + 1)))) fD hx hd2 k (fun y H4 k4 hy => by
        obtain ⟨acc, e, ha⟩ := ld.kp k4 (imt _ _ hi) not_nil
        have hl2 := dpa_len ha
        rw [List.length_take] at hl2
        refine ⟨acc, e, small_sz (by omega), Kp.upd (Kp.trans k k4) fD, ?_⟩
        rw [List.take_add_one, hd2]
        exact ld_app ha e (imt _ _ hi) hy (img _ _ _ hi hd2))
    exact q
  · rintro D H' fD ⟨k, ld⟩
    rw [List.take_of_length_le (by omega)] at ld
    exact hd D H' fD k ld
theorem i_mapZ (hx : SqL K H a xs) (hy : SqL K H b us) (ys : List V) (hl : ys.length = min xs.length us.length) (hz : ys.length ≤ 1000000)
    (st : ∀ (D : Addr) (i : Nat) (x u y : V) (T : Addr) (H' : Hp) (Q' : VK), Fr H D → xs[i]? = some x → us[i]? = some u → ys[i]? = some y → Kp [] H H' → Fr H' T → (∀ H4, Kp [] H' H4 → Q' y H4) →
      g (.ref T) (wipe σ vs) (upd H' T (.tup [x, u])) fun σ2 H2 => wipe σ2 vs = wipe σ vs ∧ te σ2 H2 Q')
    (hd : ∀ D H', Fr H D → Kp [] H H' → H' D = some (.lst ys) → Q (.ref D) H') : LcZ K [.ref a, .ref b] g tYes te vs σ H Q := by
  refine i_eltz hx hy (fun D i H' => Kp [] H H' ∧ H' D = some (.lst (ys.take i))) (fun D fD => ⟨Kp.new fD, by rw [List.take_zero]; exact upd_same⟩)
    (fun D i H' _ z => ⟨z.1.seqL not_nil hx, z.1.seqL not_nil hy⟩) ?_ ?_
  · rintro D i x u T H' fD hx2 hu ⟨k, e⟩ fT
    have h1 := (List.getElem?_eq_some_iff.mp hx2).1
    have h2 := (List.getElem?_eq_some_iff.mp hu).1
    obtain ⟨y, hy⟩ : ∃ y, ys[i]? = some y := ⟨_, List.getElem?_eq_getElem (by omega)⟩
    have q := st D i x u y T H' (fun y' H4 => ∃ acc, H4 D = some (.lst acc) ∧ acc.length < sizeLine ∧
      (Kp [] H (upd H4 D (.lst (acc ++ [y']))) ∧ upd H4 D (.lst (acc ++ [y'])) D = some (.lst (ys.take (i + 1))))) fD hx2 hu hy k fT (fun H4 k4 => by
        refine ⟨_, k4.at_ _ _ e not_nil, small_sz (by rw [List.length_take]; omega), Kp.upd (Kp.trans k k4) fD, ?_⟩
        rw [List.take_add_one, hy]
        exact upd_same)
    exact q
  · rintro D H' fD ⟨k, e⟩
    rw [List.take_of_length_le (by omega)] at e
    exact hd D H' fD k e
end

/-! ### comprehensions over a tuple -/
section
variable {K : PySem.W.Frag} {σ : L2.St} {H H1 : Hp} {Q : VK} {a : Addr} {xs : List V} {g : TG} {tt : TT} {te : TE} {vs : List Nat}
def LcT (K : PySem.W.Frag) (x : V) (g : TG) (tt : TT) (te : TE) (vs : List Nat) (σ : L2.St) (H1 : Hp) (Q : VK) : Prop :=
  ∃ a, x = .ref a ∧ (∃ xs, SqT K H1 a xs) ∧ ∀ D, H1 D = none →
    ∃ W : Nat → Nat → Hp → Prop, (∃ m, W 0 m (upd H1 D (.lst []))) ∧ ∀ i m H, W i m H →
      ((Itt K a).stop i H ∧ Q (.ref D) H) ∨ ((Itt K a).go i H ∧ ∃ Nx : Hp → Prop,
        (∀ H', Nx H' → ∃ m', m' < m ∧ W (i + 1) m' H') ∧
        ∀ x H', (Itt K a).yld i H x H' → g x (wipe σ vs) H' fun σ2 H2 => wipe σ2 vs = wipe σ vs ∧ tt σ2 H2 fun b H3 =>
          if b = true then te σ2 H3 fun y H4 => ∃ acc, H4 D = some (.lst acc) ∧ acc.length < sizeLine ∧
            Nx (upd H4 D (.lst (acc ++ [y]))) else Nx H3)
theorem i_lcT {te' : TE} (h : te' σ H fun x H1 => LcT K x g tt te vs σ H1 Q) : tLc (iTup K te') g tt te vs σ H Q := h
theorem i_eltT (hs : SqT K H a xs) (Pv : Addr → Nat → Hp → Prop)
    (h0 : ∀ D, Fr H D → Pv D 0 (upd H D (.lst [])))
    (hl : ∀ D i H', Fr H D → i ≤ xs.length → Pv D i H' → SqT K H' a xs)
    (st : ∀ D i x H', Fr H D → xs[i]? = some x → Pv D i H' → g x (wipe σ vs) H' fun σ2 H2 =>
      wipe σ2 vs = wipe σ vs ∧ tt σ2 H2 fun b H3 => if b = true then te σ2 H3 fun y H4 =>
        ∃ acc, H4 D = some (.lst acc) ∧ acc.length < sizeLine ∧ Pv D (i + 1) (upd H4 D (.lst (acc ++ [y])))
        else Pv D (i + 1) H3)
    (hd : ∀ D H', Fr H D → Pv D xs.length H' → Q (.ref D) H') : LcT K (.ref a) g tt te vs σ H Q := by
  refine ⟨a, rfl, ⟨_, hs⟩, fun D hD => ?_⟩
  exact lc_tup (K := K) (a := a) (xs := xs) (Pv D) (h0 D ⟨hD⟩) (fun i H' => hl D i H' ⟨hD⟩)
    (fun i x H' => st D i x H' ⟨hD⟩) (fun H' => hd D H' ⟨hD⟩)
theorem i_mapT (hs : SqT K H a xs) (ys : List V) (hl : ys.length = xs.length) (hz : xs.length ≤ 1000000)
    (st : ∀ (D : Addr) (i : Nat) (x y : V) (H' : Hp) (Q' : VK), Fr H D → xs[i]? = some x → ys[i]? = some y → Kp [] H H' → (∀ H4, Kp [] H' H4 → Q' y H4) →
      g x (wipe σ vs) H' fun σ2 H2 => wipe σ2 vs = wipe σ vs ∧ te σ2 H2 Q')
    (hd : ∀ D H', Fr H D → Kp [] H H' → H' D = some (.lst ys) → Q (.ref D) H') : LcT K (.ref a) g tYes te vs σ H Q := by
  refine i_eltT hs (fun D i H' => Kp [] H H' ∧ H' D = some (.lst (ys.take i))) (fun D fD => ⟨Kp.new fD, by rw [List.take_zero]; exact upd_same⟩)
    (fun D i H' _ _ z => z.1.seqT hs) ?_ ?_
  · rintro D i x H' fD hx ⟨k, e⟩
    have hi := (List.getElem?_eq_some_iff.mp hx).1
    obtain ⟨y, hy⟩ : ∃ y, ys[i]? = some y := ⟨_, List.getElem?_eq_getElem (by omega)⟩
    have q := st D i x y H' (fun y' H4 => ∃ acc, H4 D = some (.lst acc) ∧ acc.length < sizeLine ∧
      (Kp [] H (upd H4 D (.lst (acc ++ [y']))) ∧ upd H4 D (.lst (acc ++ [y'])) D = some (.lst (ys.take (i + 1))))) fD hx hy k (fun H4 k4 => by
        refine ⟨_, k4.at_ _ _ e not_nil, small_sz (by rw [List.length_take]; omega), Kp.upd (Kp.trans k k4) fD, ?_⟩
        rw [List.take_add_one, hy]
        exact upd_same)
    exact q
  · rintro D H' fD ⟨k, e⟩
    rw [List.take_of_length_le (by omega)] at e
    exact hd D H' fD k e
end

/-- no two neighbours of one number -/
def apart : List (Int × Int) → Prop
  | [] => True
  | [_] => True
  | p :: q :: t => p.2 ≠ q.2 ∧ apart (q :: t)
theorem apart_wst (f : List (Int × Int)) (p : Int × Int) (h : apart f) : apart (wst f p) := by
  cases f with
  | nil => trivial
  | cons q t =>
    unfold wst
    simp only
    split
    · rename_i c
      cases t with
      | nil => trivial
      | cons r u => exact ⟨by rw [← c]; exact h.1, h.2⟩
    · rename_i c
      exact ⟨fun z => c z.symm, h⟩
theorem apart_wr : ∀ ps : List (Int × Int), apart (wr ps)
  | [] => trivial
  | p :: ps => by
    unfold wr
    split
    · exact apart_wst _ _ (apart_wr ps)
    · exact apart_wr ps
theorem apart_get : ∀ (ps : List (Int × Int)) (i : Nat) (p q : Int × Int), apart ps → ps[i]? = some p → ps.tail[i]? = some q → p.2 ≠ q.2
  | [], _, _, _, _, e, _ => by cases e
  | [_], i, _, _, _, _, e => by simp at e
  | a :: b :: t, 0, p, q, h, e1, e2 => by
    cases e1
    cases e2
    exact h.1
  | a :: b :: t, i + 1, p, q, h, e1, e2 => apart_get (b :: t) i p q h.2 e1 e2
theorem rep_get {n i : Nat} {v y : V} (h : (List.replicate n v)[i]? = some y) : y = v := by
  rw [List.getElem?_replicate] at h
  split at h
  · exact (Option.some.inj h).symm
  · cases h

def sp_is_run (K : PySem.W.Frag) : Sp := fun vs H Q _ => ∃ (t : Addr) (n v : Int), vs = [.ref t] ∧ SqT K H t [.int n, .int v] ∧ 0 < n ∧ Q (.bl true) H
theorem sc_is_run : FnScope ["thing", "many", "number"] ["thing"] (defScope s_is_run) :=
  ⟨rfl, rfl, rfl, by decide +kernel, rfl, by decide +kernel, by decide +kernel⟩
theorem ok_is_run {P : Program} {w : World} {K : PySem.W.Frag} {mg : Str → Option Value} {base : Heap} (T : Txt w K mg) :
    FnG P w K mg base 2 T.a_is_run T.d_is_run ["thing"] (sp_is_run K) := by
  refine okD T.F_is_run sc_is_run (fun vs H Q E h => ?_) (fun cdv A outer s H vs Q E hr h => ?_)
  · first
      | (obtain ⟨_, rfl, _⟩ := h; rfl)
      | (obtain ⟨_, _, rfl, _⟩ := h; rfl)
      | (obtain ⟨_, _, _, rfl, _⟩ := h; rfl)
      | (obtain ⟨_, _, _, _, rfl, _⟩ := h; rfl)
      | (obtain ⟨_, _, _, _, _, rfl, _⟩ := h; rfl)
      | (obtain ⟨_, _, _, _, _, _, rfl, _⟩ := h; rfl)
      | (obtain ⟨_, _, _, _, _, _, _, rfl, _⟩ := h; rfl)
      | (obtain ⟨_, _, _, _, _, _, _, _, rfl, _⟩ := h; rfl)
      | (obtain ⟨_, _, _, _, _, _, _, _, _, rfl, _⟩ := h; rfl)
      | (obtain ⟨_, _, _, _, _, _, _, _, _, _, rfl, _⟩ := h; rfl)
      | (obtain ⟨_, _, _, _, _, _, _, _, _, _, _, rfl, _⟩ := h; rfl)
      | (obtain ⟨_, _, _, _, _, _, _, _, _, _, _, _, rfl, _⟩ := h; rfl)
      | (obtain ⟨_, _, _, _, _, _, _, _, _, _, _, _, _, rfl, _⟩ := h; rfl)
      | (obtain ⟨_, _, _, _, _, _, _, _, _, _, _, _, _, _, rfl, _⟩ := h; rfl)
      | (obtain ⟨_, _, _, _, _, _, _, _, _, _, _, _, _, _, _, rfl, _⟩ := h; rfl)
      | (obtain ⟨_, _, _, _, _, _, _, _, _, _, _, _, _, _, _, _, rfl, _⟩ := h; rfl)
      | (obtain ⟨_, _, _, _, _, _, _, _, _, _, _, _, _, _, _, _, _, rfl, _⟩ := h; rfl)
      | (obtain ⟨_, _, _, _, _, _, _, _, _, _, _, _, _, _, _, _, _, _, rfl, _⟩ := h; rfl)
      | (obtain ⟨_, _, _, _, _, _, _, _, _, _, _, _, _, _, _, _, _, _, _, rfl, _⟩ := h; rfl)
  · obtain ⟨t, n, v, rfl, hT, hn, k⟩ := h
    refine ⟨_, (pss_cons (ps_if (PW.pt (pw_or (pt_not (pt_val (pe_callB (k_isi (K := K) rfl) (by rfl) T.n_isinstance (by decide +kernel) (pa_cons (pv 0) (pa_cons (pe_bltn (v := .ty "tuple") (by rfl) T.n_tuple (by decide +kernel) rfl) pa_nil))))) (pw_or1 (pt_cmpR (k_ne (K := K) rfl hr.r.units) (pe_callB (k_len (K := K) rfl) (by rfl) T.n_len (by decide +kernel) (pa_cons (pv 0) pa_nil)) pe_int (nomark _))))) (pss_one (ps_ret pe_bl)) pss_nil)
      (pss_cons (ps_asg (pv 0) (k_gtup (K := K) 2 rfl rfl (pgs_cons (pg_name (i := 1) sc_is_run.nd rfl (Or.inl rfl)) (pgs_cons (pg_name (i := 2) sc_is_run.nd rfl (Or.inl rfl)) pgs_nil))))
      (pss_one (ps_ret (pe_and (d1 (ok_is_number T) (hr.mono (by decide)) (by rfl) T.m_is_number T.F_is_number.kp T.b_is_number passL (pa_cons (pv 1) pa_nil)) (pe_and (pe_cmpR op_gt (pv 1) pe_int (nomark _)) (pe_one (d1 (ok_is_number T) (hr.mono (by decide)) (by rfl) T.m_is_number T.F_is_number.kp T.b_is_number passL (pa_cons (pv 2) pa_nil))))))))), ?_⟩
    dsimp only [cxOf, st_1, st_2, st_3, st_4, st_5, st_6, List.length_cons, List.length_nil, List.replicate_succ, List.replicate_zero, Nat.reduceAdd, Nat.reduceSub]
    walk_at "gs"
    refine i_isD (dp_mk2 hT) (show kitB "tuple" "tuple" = some true by decide +kernel) ?_
    walk_at "gs"
    refine i_decN (fun z => absurd rfl z) (fun _ => ?_)
    walk_at "gs"
    refine number_int ?_
    walk_at "gs"
    refine i_dec (fun _ => ?_) (fun z => absurd hn z)
    walk_at "gs"
    exact number_int k
def sp_are_runs (K : PySem.W.Frag) : Sp := fun vs H Q _ => ∃ (l : Addr) (ps : List (Int × Int)) (n : Int), vs = [.ref l, .int n] ∧ Dp K H (.ref l) (.list (ps.map d2)) ∧
  (∀ q ∈ ps, 0 < q.1) ∧ apart ps ∧ ps.length ≤ 100000 ∧ wide ps = n ∧ ∀ H', Kp [] H H' → Q (.bl true) H'
theorem all_true (n : Nat) : ((List.replicate n true).all id) = true := by
  rw [List.all_eq_true]
  intro b hb
  rw [(List.mem_replicate.mp hb).2]
  rfl
theorem any_false (n : Nat) : ((List.replicate n false).any id) = false := by
  rw [List.any_eq_false]
  intro b hb
  rw [(List.mem_replicate.mp hb).2]
  simp
theorem sc_are_runs : FnScope ["thing", "size", "one", "other", "many", "number"] ["thing", "size"] (defScope s_are_runs) :=
  ⟨rfl, rfl, rfl, by decide +kernel, rfl, by decide +kernel, by decide +kernel⟩
theorem ok_are_runs {P : Program} {w : World} {K : PySem.W.Frag} {mg : Str → Option Value} {base : Heap} (T : Txt w K mg) :
    FnG P w K mg base 3 T.a_are_runs T.d_are_runs ["thing", "size"] (sp_are_runs K) := by
  refine okD T.F_are_runs sc_are_runs (fun vs H Q E h => ?_) (fun cdv A outer s H vs Q E hr h => ?_)
  · first
      | (obtain ⟨_, rfl, _⟩ := h; rfl)
      | (obtain ⟨_, _, rfl, _⟩ := h; rfl)
      | (obtain ⟨_, _, _, rfl, _⟩ := h; rfl)
      | (obtain ⟨_, _, _, _, rfl, _⟩ := h; rfl)
      | (obtain ⟨_, _, _, _, _, rfl, _⟩ := h; rfl)
      | (obtain ⟨_, _, _, _, _, _, rfl, _⟩ := h; rfl)
      | (obtain ⟨_, _, _, _, _, _, _, rfl, _⟩ := h; rfl)
      | (obtain ⟨_, _, _, _, _, _, _, _, rfl, _⟩ := h; rfl)
      | (obtain ⟨_, _, _, _, _, _, _, _, _, rfl, _⟩ := h; rfl)
      | (obtain ⟨_, _, _, _, _, _, _, _, _, _, rfl, _⟩ := h; rfl)
      | (obtain ⟨_, _, _, _, _, _, _, _, _, _, _, rfl, _⟩ := h; rfl)
      | (obtain ⟨_, _, _, _, _, _, _, _, _, _, _, _, rfl, _⟩ := h; rfl)
      | (obtain ⟨_, _, _, _, _, _, _, _, _, _, _, _, _, rfl, _⟩ := h; rfl)
      | (obtain ⟨_, _, _, _, _, _, _, _, _, _, _, _, _, _, rfl, _⟩ := h; rfl)
      | (obtain ⟨_, _, _, _, _, _, _, _, _, _, _, _, _, _, _, rfl, _⟩ := h; rfl)
      | (obtain ⟨_, _, _, _, _, _, _, _, _, _, _, _, _, _, _, _, rfl, _⟩ := h; rfl)
      | (obtain ⟨_, _, _, _, _, _, _, _, _, _, _, _, _, _, _, _, _, rfl, _⟩ := h; rfl)
      | (obtain ⟨_, _, _, _, _, _, _, _, _, _, _, _, _, _, _, _, _, _, rfl, _⟩ := h; rfl)
      | (obtain ⟨_, _, _, _, _, _, _, _, _, _, _, _, _, _, _, _, _, _, _, rfl, _⟩ := h; rfl)
  · obtain ⟨l, ps, n, rfl, hl, hpos, hap, hps, hw, k⟩ := h
    have hD := hl
    cases hl
    rename_i xs hsq hall
    have hxl := dpa_len hall
    rw [List.length_map] at hxl
    refine ⟨_, (pss_cons (ps_if (PW.pt (pw_or (pt_not (pt_val (pe_callB (k_isi (K := K) rfl) (by rfl) T.n_isinstance (by decide +kernel) (pa_cons (pv 0) (pa_cons (pe_bltn (v := .ty "list") (by rfl) T.n_list (by decide +kernel) rfl) pa_nil))))) (pw_or1 (pt_not (pt_val (pe_callB (k_all (K := K) rfl rfl) (by rfl) T.n_all (by decide +kernel) (pa_cons (pe_lc (own := [("one", 2)]) (g := (gName 2)) (tt := tYes) rfl sc_are_runs.nd (k_plist (K := K) rfl (pv 0)) (blkOk_by (own := [("one", 2)]) (N := ["thing", "size", "one", "other", "many", "number"]) (sc := defScope s_are_runs) (by decide +kernel)) (fun _ _ _ _ _ => (pg_name (i := 2) sc_are_runs.nd rfl (Or.inl rfl))) (fun _ _ _ _ _ => pts_nil) (fun _ _ _ _ _ => (d1 (ok_is_run T) (hr.mono (by decide)) (by rfl) T.m_is_run T.F_is_run.kp T.b_is_run passL (pa_cons (pv 2) pa_nil)))) pa_nil))))))) (pss_one (ps_ret pe_bl)) pss_nil)
      (pss_cons (ps_if (pt_val (pe_callB (k_any (K := K) rfl rfl) (by rfl) T.n_any (by decide +kernel) (pa_cons (pe_lc (own := [("one", 2), ("other", 3)]) (g := (gTup K 2 (gCons (gName 2) (gCons (gName 3) gNil)))) (tt := tYes) rfl sc_are_runs.nd (k_pzip (K := K) rfl (by rfl) T.n_zip (pa_cons (pv 0) (pa_cons (pe_slice (k_sl (K := K) rfl) (pv 0) (po_some pe_int) po_none) pa_nil))) (blkOk_by (own := [("one", 2), ("other", 3)]) (N := ["thing", "size", "one", "other", "many", "number"]) (sc := defScope s_are_runs) (by decide +kernel)) (fun _ _ _ _ _ => (k_gtup (K := K) 2 rfl rfl (pgs_cons (pg_name (i := 2) sc_are_runs.nd rfl (Or.inl rfl)) (pgs_cons (pg_name (i := 3) sc_are_runs.nd rfl (Or.inl rfl)) pgs_nil)))) (fun _ _ _ _ _ => pts_nil) (fun _ _ _ _ _ => (pe_cmpR (k_eq (K := K) rfl hr.r.units) (pe_ix (k_ix (K := K) rfl) (pv 2) pe_int (fun _ _ => rfl)) (pe_ix (k_ix (K := K) rfl) (pv 3) pe_int (fun _ _ => rfl)) (nomark _)))) pa_nil))) (pss_one (ps_ret pe_bl)) pss_nil)
      (pss_one (ps_ret (pe_cmpR (k_eq (K := K) rfl hr.r.units) (pe_callB (k_sum (K := K) rfl rfl) (by rfl) T.n_sum (by decide +kernel) (pa_cons (pe_lc (own := [("many", 4), ("number", 5)]) (g := (gTup K 2 (gCons (gName 4) (gCons (gName 5) gNil)))) (tt := tYes) rfl sc_are_runs.nd (k_plist (K := K) rfl (pv 0)) (blkOk_by (own := [("many", 4), ("number", 5)]) (N := ["thing", "size", "one", "other", "many", "number"]) (sc := defScope s_are_runs) (by decide +kernel)) (fun _ _ _ _ _ => (k_gtup (K := K) 2 rfl rfl (pgs_cons (pg_name (i := 4) sc_are_runs.nd rfl (Or.inl rfl)) (pgs_cons (pg_name (i := 5) sc_are_runs.nd rfl (Or.inl rfl)) pgs_nil)))) (fun _ _ _ _ _ => pts_nil) (fun _ _ _ _ _ => (pv 4))) pa_nil)) (pv 1) (nomark _)))))), ?_⟩
    dsimp only [cxOf, st_1, st_2, st_3, st_4, st_5, st_6, List.length_cons, List.length_nil, List.replicate_succ, List.replicate_zero, Nat.reduceAdd, Nat.reduceSub]
    walk_at "gs"
    refine i_isD hD (show kitB "list" "list" = some true by decide +kernel) ?_
    walk_at "gs"
    refine i_mapL hsq (List.replicate xs.length (.bl true)) (by rw [List.length_replicate]) (by omega) ?_ ?_
    · intro D i x y H' Q' fD hx hy k1 q
      obtain ⟨d, hd, hdp⟩ := dpa_getV hall hx
      obtain ⟨p, hp, rfl⟩ := map_get hd
      obtain ⟨t, rfl, hT⟩ := dp_pair (dp_imm k1 _ _ rfl hdp)
      have hy2 := rep_get hy
      subst hy2
      walk_at "gs"
      exact ⟨t, p.1, p.2, rfl, hT, hpos p (List.mem_of_getElem? hp), q H' Kp.refl⟩
    intro D1 H1 fD1 k1 e1
    walk_at "gs"
    have eb : List.replicate xs.length (V.bl true) = (List.replicate xs.length true).map V.bl := by rw [List.map_replicate]
    rw [eb] at e1
    refine i_all (SqL.of e1) ?_
    rw [all_true]
    walk_at "gs"
    have hsq1 := k1.seqL not_nil hsq
    walk_at "gs"
    refine i_new fun z hz => ?_
    have ec : cutV xs (some 1) none = xs.tail := by
      cases xs with
      | nil => rfl
      | cons x t => exact cutV_tail x t
    rw [ec]
    have kz : Kp [] H1 (upd H1 z (.lst xs.tail)) := Kp.new hz
    walk_at "gs"
    refine i_mapZ (kz.seqL not_nil hsq1) (SqL.of upd_same) (List.replicate (min xs.length xs.tail.length) (.bl false)) (by rw [List.length_replicate]) (by rw [List.length_replicate]; omega) ?_ ?_
    · intro D i x u y T H' Q' fD hx hu hy k2 fT q
      obtain ⟨d, hd, hdp⟩ := dpa_getV hall hx
      obtain ⟨p, hp, rfl⟩ := map_get hd
      have hall2 : DpAll K H xs.tail (ps.tail.map d2) := by
        rw [List.map_tail]
        exact dpa_tail hall
      obtain ⟨d, hd, hdq⟩ := dpa_getV hall2 hu
      obtain ⟨p2, hp2, rfl⟩ := map_get hd
      have ne := apart_get _ _ _ _ hap hp hp2
      have kk : Kp [] H (upd H' T (.tup [x, u])) := Kp.trans (Kp.trans k1 kz) (Kp.trans k2 (Kp.new fT))
      obtain ⟨t, rfl, hT⟩ := dp_pair (dp_imm kk _ _ rfl hdp)
      obtain ⟨t2, rfl, hT2⟩ := dp_pair (dp_imm kk _ _ rfl hdq)
      have hy2 := rep_get hy
      subst hy2
      walk_at "gs"
      rw [decide_eq_false ne]
      exact q _ (Kp.new fT)
    intro D2 H2 fD2 k2 e2
    walk_at "gs"
    have eb2 : List.replicate (min xs.length xs.tail.length) (V.bl false) = (List.replicate (min xs.length xs.tail.length) false).map V.bl := by rw [List.map_replicate]
    rw [eb2] at e2
    refine i_any (SqL.of e2) ?_
    rw [any_false]
    walk_at "gs"
    have k02 : Kp [] H H2 := Kp.trans (Kp.trans k1 kz) k2
    refine i_mapL (k02.seqL not_nil hsq) ((ps.map (·.1)).map V.int) (by rw [List.length_map, List.length_map]; omega) (by omega) ?_ ?_
    · intro D i x y H' Q' fD hx hy k3 q
      obtain ⟨d, hd, hdp⟩ := dpa_getV hall hx
      obtain ⟨p, hp, rfl⟩ := map_get hd
      obtain ⟨t, rfl, hT⟩ := dp_pair (dp_imm (Kp.trans k02 k3) _ _ rfl hdp)
      rw [List.getElem?_map, List.getElem?_map, hp] at hy
      cases hy
      walk_at "gs"
      exact q H' Kp.refl
    intro D3 H3 fD3 k3 e3
    walk_at "gs"
    refine i_sum (SqL.of e3) ?_
    walk_at "gs"
    have es : (ps.map (·.1)).sum = n := hw
    rw [decide_eq_true es]
    exact k H3 (Kp.trans k02 k3)

/-! ### a memory -/
def mfs (n : Int) (l : Addr) : List (Str × V) := [("wide", .int n), ("pairs", .ref l)]
def MemAt (K : PySem.W.Frag) (C : Addr) (H : Hp) (m : Addr) (cs : List Int) : Prop :=
  ∃ dx l, H m = some (.ins C dx (mfs cs.length l)) ∧ LD K H l ((rle cs).map d2)
/-- b is not the list that m holds its runs in -/
def Off (H : Hp) (m b : Addr) : Prop := ∀ C dx n l, H m = some (.ins C dx (mfs n l)) → l ≠ b
theorem off_mk {H : Hp} {m b l C dx : Addr} {n : Int} (e : H m = some (.ins C dx (mfs n l))) (h : l ≠ b) : Off H m b := by
  intro C2 dx2 n2 l2 e2
  rw [e] at e2
  injection e2 with e2
  injection e2 with _ _ e3
  unfold mfs at e3
  injection e3 with _ e4
  injection e4 with e5 _
  injection e5 with _ e6
  injection e6 with e7
  rw [← e7]
  exact h
theorem off_kp {ws : List Addr} {H H' : Hp} {m b : Addr} (k : Kp ws H H') (t : Tr H m) (n : m ∉ ws) (h : Off H m b) : Off H' m b := by
  obtain ⟨o, e⟩ := t.ex
  intro C dx n2 l e2
  rw [k.at_ _ _ e n] at e2
  cases e2
  exact h _ _ _ _ e
/-- another thing that is written -/
def Oth (H : Hp) (m p : Addr) : Prop := (∃ i xs, H p = some (.lst (.int i :: xs))) ∨ (p ≠ m ∧ ∃ C dx fs, H p = some (.ins C dx fs)) ∨
  ((∃ xs, H p = some (.lst xs)) ∧ Off H m p)
section
variable {K : PySem.W.Frag} {C : Addr} {H H' : Hp} {m p l : Addr} {cs ds : List Int} {ws : List Addr} {o : HO}
theorem ld_ne_int {i : Int} {xs : List V} (h : LD K H l ((rle cs).map d2)) (e : H p = some (.lst (.int i :: xs))) : l ≠ p := by
  intro z
  obtain ⟨vs, q, a⟩ := h
  rw [z, e] at q
  cases q
  cases w : rle cs with
  | nil =>
    rw [w] at a
    cases a
  | cons x t =>
    rw [w] at a
    cases a
    rename_i a b
    cases a
theorem MemAt.kp (h : MemAt K C H m cs) (k : Kp ws H H') (n : ∀ p ∈ ws, Oth H m p) : MemAt K C H' m cs := by
  obtain ⟨dx, l, hm, ld⟩ := h
  refine ⟨dx, l, k.at_ _ _ hm ?_, LD.kp ld k (imms_d2 _) ?_⟩
  · intro z
    rcases n m z with ⟨i, xs, e⟩ | ⟨q, _⟩ | ⟨⟨xs, e⟩, _⟩
    · rw [hm] at e
      cases e
    · exact q rfl
    · rw [hm] at e
      cases e
  · intro z
    rcases n l z with ⟨i, xs, e⟩ | ⟨q, D, dy, fs, e⟩ | ⟨_, e⟩
    · exact ld_ne_int ld e rfl
    · obtain ⟨vs, e2, _⟩ := ld
      rw [e] at e2
      cases e2
    · exact e _ _ _ _ hm rfl
theorem mem_kp0 (h : MemAt K C H m cs) (k : Kp [] H H') : MemAt K C H' m cs := h.kp k fun p hp => nomatch hp
theorem mem_kp1 (h : MemAt K C H m cs) (k : Kp [p] H H') (n : Oth H m p) : MemAt K C H' m cs :=
  h.kp k fun q hq => by
    rw [List.mem_singleton.mp hq]
    exact n
theorem mem_upd (h : MemAt K C H m cs) (f : Fr H p) : MemAt K C (upd H p o) m cs := mem_kp0 h (Kp.new f)
theorem oth_pot (h : PotAt H p) : Oth H m p := by
  obtain ⟨x, y, e, _⟩ := h
  exact .inl ⟨_, _, e⟩
theorem oth_mem (h : MemAt K C H p ds) (n : p ≠ m) : Oth H m p := by
  obtain ⟨dx, l, e, _⟩ := h
  exact .inr (.inl ⟨n, _, _, _, e⟩)
theorem oth_lst {xs : List V} (h : H p = some (.lst xs)) (n : Off H m p) : Oth H m p := .inr (.inr ⟨⟨xs, h⟩, n⟩)
theorem tr_mem (h : MemAt K C H m cs) : Tr H m := by
  obtain ⟨dx, l, e, _⟩ := h
  exact ⟨_, e⟩
theorem pot_ne_mem (h : PotAt H p) (g : MemAt K C H m cs) : p ≠ m := by
  obtain ⟨x, y, e, _⟩ := h
  obtain ⟨dx, l, e2, _⟩ := g
  intro z
  rw [z, e2] at e
  cases e
theorem pot_kp_mem (h : PotAt H p) (g : MemAt K C H m cs) (k : Kp [m] H H') : PotAt H' p := h.kp k (not_one (pot_ne_mem h g))
end
theorem two_ne {H : Hp} {a b : Addr} {u v : HO} (h1 : H a = some u) (h2 : H b = some v) (n : u ≠ v) : a ≠ b := by
  intro z
  rw [z, h2] at h1
  cases h1
  exact n rfl
theorem one_few {p : Int × Int} : [p].length ≤ 10000 := by
  rw [List.length_singleton]
  decide
def sp_init (K : PySem.W.Frag) (C : Addr) : Sp := fun vs H Q _ => ∃ (m dx : Addr) (n v : Int), vs = [.ref m, .int n, .int v] ∧
  H m = some (.ins C dx []) ∧ (1 ≤ n ∧ n ≤ 1000000000000000000) ∧
  ∀ H', Kp [m] H H' → MemAt K C H' m (List.replicate n.toNat v) → (∀ b, Tr H b → Off H' m b) → Q .non H'
theorem rle_one {n v : Int} (h : 1 ≤ n) : rle (List.replicate n.toNat v) = [(n, v)] := by
  have e := rle_rep v [] (n.toNat - 1)
  have e2 : n.toNat - 1 + 1 = n.toNat := by omega
  rw [e2, List.append_nil] at e
  rw [e]
  show [(0 + (((n.toNat - 1 : Nat) : Int) + 1), v)] = _
  congr 2
  omega
theorem sc_Memory_init : FnScope ["self", "size", "number"] ["self", "size", "number"] (defScope s_Memory_init) :=
  ⟨rfl, rfl, rfl, by decide +kernel, rfl, by decide +kernel, by decide +kernel⟩
theorem ok_Memory_init {P : Program} {w : World} {K : PySem.W.Frag} {mg : Str → Option Value} {base : Heap} (T : Txt w K mg) :
    FnG P w K mg base 5 T.a_Memory_init T.d_Memory_init ["self", "size", "number"] (sp_init K T.c_Memory) := by
  refine okD T.F_Memory_init sc_Memory_init (fun vs H Q E h => ?_) (fun cdv A outer s H vs Q E hr h => ?_)
  · first
      | (obtain ⟨_, rfl, _⟩ := h; rfl)
      | (obtain ⟨_, _, rfl, _⟩ := h; rfl)
      | (obtain ⟨_, _, _, rfl, _⟩ := h; rfl)
      | (obtain ⟨_, _, _, _, rfl, _⟩ := h; rfl)
      | (obtain ⟨_, _, _, _, _, rfl, _⟩ := h; rfl)
      | (obtain ⟨_, _, _, _, _, _, rfl, _⟩ := h; rfl)
      | (obtain ⟨_, _, _, _, _, _, _, rfl, _⟩ := h; rfl)
      | (obtain ⟨_, _, _, _, _, _, _, _, rfl, _⟩ := h; rfl)
      | (obtain ⟨_, _, _, _, _, _, _, _, _, rfl, _⟩ := h; rfl)
      | (obtain ⟨_, _, _, _, _, _, _, _, _, _, rfl, _⟩ := h; rfl)
      | (obtain ⟨_, _, _, _, _, _, _, _, _, _, _, rfl, _⟩ := h; rfl)
      | (obtain ⟨_, _, _, _, _, _, _, _, _, _, _, _, rfl, _⟩ := h; rfl)
      | (obtain ⟨_, _, _, _, _, _, _, _, _, _, _, _, _, rfl, _⟩ := h; rfl)
      | (obtain ⟨_, _, _, _, _, _, _, _, _, _, _, _, _, _, rfl, _⟩ := h; rfl)
      | (obtain ⟨_, _, _, _, _, _, _, _, _, _, _, _, _, _, _, rfl, _⟩ := h; rfl)
      | (obtain ⟨_, _, _, _, _, _, _, _, _, _, _, _, _, _, _, _, rfl, _⟩ := h; rfl)
      | (obtain ⟨_, _, _, _, _, _, _, _, _, _, _, _, _, _, _, _, _, rfl, _⟩ := h; rfl)
      | (obtain ⟨_, _, _, _, _, _, _, _, _, _, _, _, _, _, _, _, _, _, rfl, _⟩ := h; rfl)
      | (obtain ⟨_, _, _, _, _, _, _, _, _, _, _, _, _, _, _, _, _, _, _, rfl, _⟩ := h; rfl)
  · obtain ⟨m, dx, n, v, rfl, hm, z, k⟩ := h
    have cl_Memory := T.cl_Memory
    have na_Memory_pairs := T.na_Memory_pairs
    have na_Memory_wide := T.na_Memory_wide
    have cl_Lone := T.cl_Lone
    have na_Lone_all_rows := T.na_Lone_all_rows
    have na_Lone_cells := T.na_Lone_cells
    have na_Lone_next_row := T.na_Lone_next_row
    have na_Lone_numbers := T.na_Lone_numbers
    have na_Lone_rested := T.na_Lone_rested
    have cl_Program := T.cl_Program
    have na_Program_own_rows := T.na_Program_own_rows
    have na_Program_own_size := T.na_Program_own_size
    refine ⟨_, (pss_cons (ps_expr (d1 (ok_want_size T) (hr.mono (by decide)) (by rfl) T.m_want_size T.F_want_size.kp T.b_want_size passL (pa_cons (pv 1) pa_nil)))
      (pss_cons (ps_expr (d1 (ok_want_number T) (hr.mono (by decide)) (by rfl) T.m_want_number T.F_want_number.kp T.b_want_number passL (pa_cons (pv 2) pa_nil)))
      (pss_cons (k_sfld (K := K) rfl (pv 0) (pv 1) rfl)
      (pss_one (k_sfld (K := K) rfl (pv 0) (pe_lst (pa_cons (pe_tup (pa_cons (pv 1) (pa_cons (pv 2) pa_nil))) pa_nil)) rfl))))), ?_⟩
    dsimp only [cxOf, st_1, st_2, st_3, st_4, st_5, st_6, List.length_cons, List.length_nil, List.replicate_succ, List.replicate_zero, Nat.reduceAdd, Nat.reduceSub]
    walk_at "gs"
    refine ⟨n, rfl, z, ?_⟩
    walk_at "gs"
    refine ⟨v, rfl, ?_⟩
    walk_at "gs"
    refine i_new fun t ht => ?_
    walk_at "gs"
    refine i_new fun l hl => ?_
    have ntm : t ≠ m := by walk_at "g_ne"
    have nlm : l ≠ m := by walk_at "g_ne"
    have nlt : t ≠ l := by walk_at "g_ne"
    walk_at "gs"
    refine k _ (by walk_at "g_kp") ⟨dx, l, ?_, ?_⟩ (fun b hb => off_mk upd_same (Ne.symm (fr_tr (tr_upd (tr_upd hb)) hl)))
    · rw [List.length_replicate]
      have e : ((n.toNat : Nat) : Int) = n := by omega
      rw [e]
      exact upd_same
    · rw [rle_one z.1]
      have e1 := ntm
      refine ⟨_, ?_, dpa_one (dp_mk2 (a := t) (m := n) (n := v) (SqT.of ?_))⟩
      · refine upd_nn ?_ ?_
        · exact nlm
        · exact upd_same
      · refine upd_nn ?_ ?_
        · exact ntm
        · refine upd_nn ?_ ?_
          · exact nlt
          · exact upd_same
def sp_msize (K : PySem.W.Frag) (C : Addr) : Sp := fun vs H Q _ => ∃ (m : Addr) (cs : List Int), vs = [.ref m] ∧ MemAt K C H m cs ∧
  Q (.int cs.length) H
theorem sc_Memory_size : FnScope ["self"] ["self"] (defScope s_Memory_size) :=
  ⟨rfl, rfl, rfl, by decide +kernel, rfl, by decide +kernel, by decide +kernel⟩
theorem ok_Memory_size {P : Program} {w : World} {K : PySem.W.Frag} {mg : Str → Option Value} {base : Heap} (T : Txt w K mg) :
    FnG P w K mg base 1 T.a_Memory_size T.d_Memory_size ["self"] (sp_msize K T.c_Memory) := by
  refine okD T.F_Memory_size sc_Memory_size (fun vs H Q E h => ?_) (fun cdv A outer s H vs Q E hr h => ?_)
  · first
      | (obtain ⟨_, rfl, _⟩ := h; rfl)
      | (obtain ⟨_, _, rfl, _⟩ := h; rfl)
      | (obtain ⟨_, _, _, rfl, _⟩ := h; rfl)
      | (obtain ⟨_, _, _, _, rfl, _⟩ := h; rfl)
      | (obtain ⟨_, _, _, _, _, rfl, _⟩ := h; rfl)
      | (obtain ⟨_, _, _, _, _, _, rfl, _⟩ := h; rfl)
      | (obtain ⟨_, _, _, _, _, _, _, rfl, _⟩ := h; rfl)
      | (obtain ⟨_, _, _, _, _, _, _, _, rfl, _⟩ := h; rfl)
      | (obtain ⟨_, _, _, _, _, _, _, _, _, rfl, _⟩ := h; rfl)
      | (obtain ⟨_, _, _, _, _, _, _, _, _, _, rfl, _⟩ := h; rfl)
      | (obtain ⟨_, _, _, _, _, _, _, _, _, _, _, rfl, _⟩ := h; rfl)
      | (obtain ⟨_, _, _, _, _, _, _, _, _, _, _, _, rfl, _⟩ := h; rfl)
      | (obtain ⟨_, _, _, _, _, _, _, _, _, _, _, _, _, rfl, _⟩ := h; rfl)
      | (obtain ⟨_, _, _, _, _, _, _, _, _, _, _, _, _, _, rfl, _⟩ := h; rfl)
      | (obtain ⟨_, _, _, _, _, _, _, _, _, _, _, _, _, _, _, rfl, _⟩ := h; rfl)
      | (obtain ⟨_, _, _, _, _, _, _, _, _, _, _, _, _, _, _, _, rfl, _⟩ := h; rfl)
      | (obtain ⟨_, _, _, _, _, _, _, _, _, _, _, _, _, _, _, _, _, rfl, _⟩ := h; rfl)
      | (obtain ⟨_, _, _, _, _, _, _, _, _, _, _, _, _, _, _, _, _, _, rfl, _⟩ := h; rfl)
      | (obtain ⟨_, _, _, _, _, _, _, _, _, _, _, _, _, _, _, _, _, _, _, rfl, _⟩ := h; rfl)
  · obtain ⟨m, cs, rfl, ⟨dx, l, hm, ld⟩, k⟩ := h
    have cl_Memory := T.cl_Memory
    have na_Memory_pairs := T.na_Memory_pairs
    have na_Memory_wide := T.na_Memory_wide
    have cl_Lone := T.cl_Lone
    have na_Lone_all_rows := T.na_Lone_all_rows
    have na_Lone_cells := T.na_Lone_cells
    have na_Lone_next_row := T.na_Lone_next_row
    have na_Lone_numbers := T.na_Lone_numbers
    have na_Lone_rested := T.na_Lone_rested
    have cl_Program := T.cl_Program
    have na_Program_own_rows := T.na_Program_own_rows
    have na_Program_own_size := T.na_Program_own_size
    refine ⟨_, (pss_one (ps_ret (k_fld (K := K) rfl (pv 0) rfl))), ?_⟩
    dsimp only [cxOf, st_1, st_2, st_3, st_4, st_5, st_6, List.length_cons, List.length_nil, List.replicate_succ, List.replicate_zero, Nat.reduceAdd, Nat.reduceSub]
    walk_at "gs"
    exact k
def sp_runs (K : PySem.W.Frag) (C : Addr) : Sp := fun vs H Q _ => ∃ (m : Addr) (cs : List Int), vs = [.ref m] ∧ MemAt K C H m cs ∧
  ∀ l H', Fr H l → Kp [] H H' → LD K H' l ((rle cs).map d2) → Q (.ref l) H'
theorem sc_Memory_runs : FnScope ["self"] ["self"] (defScope s_Memory_runs) :=
  ⟨rfl, rfl, rfl, by decide +kernel, rfl, by decide +kernel, by decide +kernel⟩
theorem ok_Memory_runs {P : Program} {w : World} {K : PySem.W.Frag} {mg : Str → Option Value} {base : Heap} (T : Txt w K mg) :
    FnG P w K mg base 1 T.a_Memory_runs T.d_Memory_runs ["self"] (sp_runs K T.c_Memory) := by
  refine okD T.F_Memory_runs sc_Memory_runs (fun vs H Q E h => ?_) (fun cdv A outer s H vs Q E hr h => ?_)
  · first
      | (obtain ⟨_, rfl, _⟩ := h; rfl)
      | (obtain ⟨_, _, rfl, _⟩ := h; rfl)
      | (obtain ⟨_, _, _, rfl, _⟩ := h; rfl)
      | (obtain ⟨_, _, _, _, rfl, _⟩ := h; rfl)
      | (obtain ⟨_, _, _, _, _, rfl, _⟩ := h; rfl)
      | (obtain ⟨_, _, _, _, _, _, rfl, _⟩ := h; rfl)
      | (obtain ⟨_, _, _, _, _, _, _, rfl, _⟩ := h; rfl)
      | (obtain ⟨_, _, _, _, _, _, _, _, rfl, _⟩ := h; rfl)
      | (obtain ⟨_, _, _, _, _, _, _, _, _, rfl, _⟩ := h; rfl)
      | (obtain ⟨_, _, _, _, _, _, _, _, _, _, rfl, _⟩ := h; rfl)
      | (obtain ⟨_, _, _, _, _, _, _, _, _, _, _, rfl, _⟩ := h; rfl)
      | (obtain ⟨_, _, _, _, _, _, _, _, _, _, _, _, rfl, _⟩ := h; rfl)
      | (obtain ⟨_, _, _, _, _, _, _, _, _, _, _, _, _, rfl, _⟩ := h; rfl)
      | (obtain ⟨_, _, _, _, _, _, _, _, _, _, _, _, _, _, rfl, _⟩ := h; rfl)
      | (obtain ⟨_, _, _, _, _, _, _, _, _, _, _, _, _, _, _, rfl, _⟩ := h; rfl)
      | (obtain ⟨_, _, _, _, _, _, _, _, _, _, _, _, _, _, _, _, rfl, _⟩ := h; rfl)
      | (obtain ⟨_, _, _, _, _, _, _, _, _, _, _, _, _, _, _, _, _, rfl, _⟩ := h; rfl)
      | (obtain ⟨_, _, _, _, _, _, _, _, _, _, _, _, _, _, _, _, _, _, rfl, _⟩ := h; rfl)
      | (obtain ⟨_, _, _, _, _, _, _, _, _, _, _, _, _, _, _, _, _, _, _, rfl, _⟩ := h; rfl)
  · obtain ⟨m, cs, rfl, ⟨dx, l, hm, ld⟩, k⟩ := h
    obtain ⟨vs, hv, hall⟩ := id ld
    have cl_Memory := T.cl_Memory
    have na_Memory_pairs := T.na_Memory_pairs
    have na_Memory_wide := T.na_Memory_wide
    have cl_Lone := T.cl_Lone
    have na_Lone_all_rows := T.na_Lone_all_rows
    have na_Lone_cells := T.na_Lone_cells
    have na_Lone_next_row := T.na_Lone_next_row
    have na_Lone_numbers := T.na_Lone_numbers
    have na_Lone_rested := T.na_Lone_rested
    have cl_Program := T.cl_Program
    have na_Program_own_rows := T.na_Program_own_rows
    have na_Program_own_size := T.na_Program_own_size
    refine ⟨_, (pss_one (ps_ret (pe_callTy (k_list (K := K) rfl) (by rfl) T.n_list (by decide +kernel) (pa_cons (k_fld (K := K) rfl (pv 0) rfl) pa_nil)))), ?_⟩
    dsimp only [cxOf, st_1, st_2, st_3, st_4, st_5, st_6, List.length_cons, List.length_nil, List.replicate_succ, List.replicate_zero, Nat.reduceAdd, Nat.reduceSub]
    walk_at "gs"
    refine i_new fun q hq => ?_
    walk_at "gs"
    exact k q _ hq (Kp.new hq) ⟨_, upd_same, dpa_imm (Kp.new (ws := []) hq) _ _ (imms_d2 _) hall⟩
def sp_mat (K : PySem.W.Frag) (C : Addr) : Sp := fun vs H Q _ => ∃ (m : Addr) (c : Nat) (cs : List Int) (v : Int), vs = [.ref m, .int c] ∧
  MemAt K C H m cs ∧ (rle cs).length ≤ 10000 ∧ cs[c]? = some v ∧ ∀ H', Kp [] H H' → Q (.int v) H'
theorem sc_Memory_at : FnScope ["self", "cell"] ["self", "cell"] (defScope s_Memory_at) :=
  ⟨rfl, rfl, rfl, by decide +kernel, rfl, by decide +kernel, by decide +kernel⟩
theorem ok_Memory_at {P : Program} {w : World} {K : PySem.W.Frag} {mg : Str → Option Value} {base : Heap} (T : Txt w K mg) :
    FnG P w K mg base 4 T.a_Memory_at T.d_Memory_at ["self", "cell"] (sp_mat K T.c_Memory) := by
  refine okD T.F_Memory_at sc_Memory_at (fun vs H Q E h => ?_) (fun cdv A outer s H vs Q E hr h => ?_)
  · first
      | (obtain ⟨_, rfl, _⟩ := h; rfl)
      | (obtain ⟨_, _, rfl, _⟩ := h; rfl)
      | (obtain ⟨_, _, _, rfl, _⟩ := h; rfl)
      | (obtain ⟨_, _, _, _, rfl, _⟩ := h; rfl)
      | (obtain ⟨_, _, _, _, _, rfl, _⟩ := h; rfl)
      | (obtain ⟨_, _, _, _, _, _, rfl, _⟩ := h; rfl)
      | (obtain ⟨_, _, _, _, _, _, _, rfl, _⟩ := h; rfl)
      | (obtain ⟨_, _, _, _, _, _, _, _, rfl, _⟩ := h; rfl)
      | (obtain ⟨_, _, _, _, _, _, _, _, _, rfl, _⟩ := h; rfl)
      | (obtain ⟨_, _, _, _, _, _, _, _, _, _, rfl, _⟩ := h; rfl)
      | (obtain ⟨_, _, _, _, _, _, _, _, _, _, _, rfl, _⟩ := h; rfl)
      | (obtain ⟨_, _, _, _, _, _, _, _, _, _, _, _, rfl, _⟩ := h; rfl)
      | (obtain ⟨_, _, _, _, _, _, _, _, _, _, _, _, _, rfl, _⟩ := h; rfl)
      | (obtain ⟨_, _, _, _, _, _, _, _, _, _, _, _, _, _, rfl, _⟩ := h; rfl)
      | (obtain ⟨_, _, _, _, _, _, _, _, _, _, _, _, _, _, _, rfl, _⟩ := h; rfl)
      | (obtain ⟨_, _, _, _, _, _, _, _, _, _, _, _, _, _, _, _, rfl, _⟩ := h; rfl)
      | (obtain ⟨_, _, _, _, _, _, _, _, _, _, _, _, _, _, _, _, _, rfl, _⟩ := h; rfl)
      | (obtain ⟨_, _, _, _, _, _, _, _, _, _, _, _, _, _, _, _, _, _, rfl, _⟩ := h; rfl)
      | (obtain ⟨_, _, _, _, _, _, _, _, _, _, _, _, _, _, _, _, _, _, _, rfl, _⟩ := h; rfl)
  · obtain ⟨m, c, cs, v, rfl, ⟨dx, l, hm, ld⟩, hn, hv, k⟩ := h
    have hc : c < cs.length := (List.getElem?_eq_some_iff.mp hv).1
    have cl_Memory := T.cl_Memory
    have na_Memory_pairs := T.na_Memory_pairs
    have na_Memory_wide := T.na_Memory_wide
    have cl_Lone := T.cl_Lone
    have na_Lone_all_rows := T.na_Lone_all_rows
    have na_Lone_cells := T.na_Lone_cells
    have na_Lone_next_row := T.na_Lone_next_row
    have na_Lone_numbers := T.na_Lone_numbers
    have na_Lone_rested := T.na_Lone_rested
    have cl_Program := T.cl_Program
    have na_Program_own_rows := T.na_Program_own_rows
    have na_Program_own_size := T.na_Program_own_size
    refine ⟨_, (pss_cons (ps_expr (d1 (ok_want_cell T) (hr.mono (by decide)) (by rfl) T.m_want_cell T.F_want_cell.kp T.b_want_cell passL (pa_cons (pv 1) (pa_cons (k_fld (K := K) rfl (pv 0) rfl) pa_nil))))
      (pss_one (ps_ret (pe_ix (k_ix (K := K) rfl) (pe_ix (k_ix (K := K) rfl) (d1 (ok_cut_out T) (hr.mono (by decide)) (by rfl) T.m_cut_out T.F_cut_out.kp T.b_cut_out passL (pa_cons (k_fld (K := K) rfl (pv 0) rfl) (pa_cons (pv 1) (pa_cons (pe_op (k_add (K := K) rfl) (pv 1) pe_int) pa_nil)))) pe_int (fun _ _ => rfl)) pe_int (fun _ _ => rfl))))), ?_⟩
    dsimp only [cxOf, st_1, st_2, st_3, st_4, st_5, st_6, List.length_cons, List.length_nil, List.replicate_succ, List.replicate_zero, Nat.reduceAdd, Nat.reduceSub]
    walk_at "gs"
    refine ⟨c, cs.length, rfl, by omega, ?_⟩
    walk_at "gs"
    refine ⟨l, c, c + 1, rle cs, rfl, ld.dp, by omega, fun f H1 hf k1 lf => ?_⟩
    rw [cut_at hv] at lf
    obtain ⟨us, hu, ha⟩ := lf
    cases ha
    rename_i x us hx hus
    cases hus
    obtain ⟨t, rfl, ht⟩ := dp_pair hx
    walk_at "gs"
    exact k H1 k1
def sp_lay (K : PySem.W.Frag) (C : Addr) : Sp := fun vs H Q _ => ∃ (m x : Addr) (b e : Int) (cs : List Int) (ps : List (Int × Int)),
  vs = [.ref m, .int b, .ref x, .int e] ∧ MemAt K C H m cs ∧ LD K H x (ps.map d2) ∧ (rle cs).length ≤ 10000 ∧ ps.length ≤ 10000 ∧
  (0 ≤ b ∧ b ≤ e ∧ e ≤ cs.length) ∧ (cells ps).length = (e - b).toNat ∧
  ∀ H', Kp [m] H H' → MemAt K C H' m (laid cs b.toNat (cells ps) e.toNat) → (∀ b, Tr H b → Off H' m b) → Q .non H'
theorem sc_Memory_lay : FnScope ["self", "begin", "pairs", "end", "ahead", "behind"] ["self", "begin", "pairs", "end"] (defScope s_Memory_lay) :=
  ⟨rfl, rfl, rfl, by decide +kernel, rfl, by decide +kernel, by decide +kernel⟩
theorem ok_Memory_lay {P : Program} {w : World} {K : PySem.W.Frag} {mg : Str → Option Value} {base : Heap} (T : Txt w K mg) :
    FnG P w K mg base 2 T.a_Memory_lay T.d_Memory_lay ["self", "begin", "pairs", "end"] (sp_lay K T.c_Memory) := by
  refine okD T.F_Memory_lay sc_Memory_lay (fun vs H Q E h => ?_) (fun cdv A outer s H vs Q E hr h => ?_)
  · first
      | (obtain ⟨_, rfl, _⟩ := h; rfl)
      | (obtain ⟨_, _, rfl, _⟩ := h; rfl)
      | (obtain ⟨_, _, _, rfl, _⟩ := h; rfl)
      | (obtain ⟨_, _, _, _, rfl, _⟩ := h; rfl)
      | (obtain ⟨_, _, _, _, _, rfl, _⟩ := h; rfl)
      | (obtain ⟨_, _, _, _, _, _, rfl, _⟩ := h; rfl)
      | (obtain ⟨_, _, _, _, _, _, _, rfl, _⟩ := h; rfl)
      | (obtain ⟨_, _, _, _, _, _, _, _, rfl, _⟩ := h; rfl)
      | (obtain ⟨_, _, _, _, _, _, _, _, _, rfl, _⟩ := h; rfl)
      | (obtain ⟨_, _, _, _, _, _, _, _, _, _, rfl, _⟩ := h; rfl)
      | (obtain ⟨_, _, _, _, _, _, _, _, _, _, _, rfl, _⟩ := h; rfl)
      | (obtain ⟨_, _, _, _, _, _, _, _, _, _, _, _, rfl, _⟩ := h; rfl)
      | (obtain ⟨_, _, _, _, _, _, _, _, _, _, _, _, _, rfl, _⟩ := h; rfl)
      | (obtain ⟨_, _, _, _, _, _, _, _, _, _, _, _, _, _, rfl, _⟩ := h; rfl)
      | (obtain ⟨_, _, _, _, _, _, _, _, _, _, _, _, _, _, _, rfl, _⟩ := h; rfl)
      | (obtain ⟨_, _, _, _, _, _, _, _, _, _, _, _, _, _, _, _, rfl, _⟩ := h; rfl)
      | (obtain ⟨_, _, _, _, _, _, _, _, _, _, _, _, _, _, _, _, _, rfl, _⟩ := h; rfl)
      | (obtain ⟨_, _, _, _, _, _, _, _, _, _, _, _, _, _, _, _, _, _, rfl, _⟩ := h; rfl)
      | (obtain ⟨_, _, _, _, _, _, _, _, _, _, _, _, _, _, _, _, _, _, _, rfl, _⟩ := h; rfl)
  · obtain ⟨m, x, b, e, cs, ps, rfl, ⟨dx, l, hm, ld⟩, lx, hn, hp, hb, hlen, k⟩ := h
    have n1 := cut_len 0 b (rle cs)
    have n2 := cut_len e cs.length (rle cs)
    have cl_Memory := T.cl_Memory
    have na_Memory_pairs := T.na_Memory_pairs
    have na_Memory_wide := T.na_Memory_wide
    have cl_Lone := T.cl_Lone
    have na_Lone_all_rows := T.na_Lone_all_rows
    have na_Lone_cells := T.na_Lone_cells
    have na_Lone_next_row := T.na_Lone_next_row
    have na_Lone_numbers := T.na_Lone_numbers
    have na_Lone_rested := T.na_Lone_rested
    have cl_Program := T.cl_Program
    have na_Program_own_rows := T.na_Program_own_rows
    have na_Program_own_size := T.na_Program_own_size
    refine ⟨_, (pss_cons (ps_set (i := 4) sc_Memory_lay.nd rfl (Or.inl rfl) (d1 (ok_cut_out T) (hr.mono (by decide)) (by rfl) T.m_cut_out T.F_cut_out.kp T.b_cut_out passL (pa_cons (k_fld (K := K) rfl (pv 0) rfl) (pa_cons pe_int (pa_cons (pv 1) pa_nil)))))
      (pss_cons (ps_set (i := 5) sc_Memory_lay.nd rfl (Or.inl rfl) (d1 (ok_cut_out T) (hr.mono (by decide)) (by rfl) T.m_cut_out T.F_cut_out.kp T.b_cut_out passL (pa_cons (k_fld (K := K) rfl (pv 0) rfl) (pa_cons (pv 3) (pa_cons (k_fld (K := K) rfl (pv 0) rfl) pa_nil)))))
      (pss_one (k_sfld (K := K) rfl (pv 0) (d1 (ok_joined T) (hr.mono (by decide)) (by rfl) T.m_joined T.F_joined.kp T.b_joined passL (pa_cons (pe_op (k_add (K := K) rfl) (pe_op (k_add (K := K) rfl) (pv 4) (pv 2)) (pv 5)) pa_nil)) rfl)))), ?_⟩
    dsimp only [cxOf, st_1, st_2, st_3, st_4, st_5, st_6, List.length_cons, List.length_nil, List.replicate_succ, List.replicate_zero, Nat.reduceAdd, Nat.reduceSub]
    walk_at "gs"
    refine ⟨l, 0, b, rle cs, rfl, ld.dp, by omega, fun f H1 hf k1 lf => ?_⟩
    have ld1 : LD K H1 l ((rle cs).map d2) := by walk_at "g_ld"
    have lx1 : LD K H1 x (ps.map d2) := by walk_at "g_ld"
    walk_at "gs"
    refine ⟨l, e, cs.length, rle cs, rfl, ld1.dp, by omega, fun g H2 hg k2 lg => ?_⟩
    have lx2 : LD K H2 x (ps.map d2) := by walk_at "g_ld"
    have lf2 : LD K H2 f ((cut 0 b (rle cs)).map d2) := by walk_at "g_ld"
    obtain ⟨xv, hx, ax⟩ := lx2
    obtain ⟨fv, hfv, af⟩ := lf2
    obtain ⟨gv, hgv, ag⟩ := lg
    have lx3 := dpa_len ax
    have lf3 := dpa_len af
    have lg3 := dpa_len ag
    rw [List.length_map] at lx3 lf3 lg3
    walk_at "gs"
    refine i_new fun s hs => ?_
    walk_at "gs"
    refine i_new fun u hu => ?_
    walk_at "gs"
    have kk : Kp [] H2 (upd (upd H2 s (.lst (fv ++ xv))) u (.lst (fv ++ xv ++ gv))) := by walk_at "g_kp"
    refine ⟨u, cut 0 b (rle cs) ++ ps ++ cut e cs.length (rle cs), rfl, ?_, ?_, fun j H3 hj k3 lj => ?_⟩
    · refine LD.dp ⟨_, upd_same, ?_⟩
      rw [List.map_append, List.map_append]
      exact dpa_imm kk _ _ (by rw [← List.map_append, ← List.map_append]; exact imms_d2 _) (dpa_app (dpa_app af ax) ag)
    · rw [List.length_append, List.length_append]
      omega
    · rw [laid_rle] at lj
      walk_at "gs"
      refine k _ (by walk_at "g_kp") ⟨dx, j, ?_, ?_⟩ (fun b hb => off_mk upd_same (Ne.symm (fr_tr (tr_kp kk (tr_kp k2 (tr_kp k1 hb))) hj)))
      · rw [laid_len (by omega) (by omega) (by omega)]
        exact upd_same
      · walk_at "g_ld"

/-! ### a new instance -/
theorem i_made {C : Addr} {sp : Sp} {E : XK} {H : Hp} {Q : VK} {vs : Addr → List V}
    (h : ∀ x dx, Fr H x → Fr H dx → dx ≠ x → sp (vs x) (upd (upd H dx (.own x)) x (.ins C dx [])) (fun v H2 => v = .non ∧ Q (.ref x) H2) E) :
    Made C sp E H Q vs := fun x dx hx hd n => h x dx ⟨hx⟩ ⟨hd⟩ n
theorem kp_made {H H3 : Hp} {x dx : Addr} {o1 o2 : HO} (hx : Fr H x) (hd : Fr H dx) (k : Kp [x] (upd (upd H dx o1) x o2) H3) : Kp [] H H3 :=
  Kp.drop (Kp.trans (Kp.wide (Kp.upd (Kp.upd Kp.refl hd) hx)) k) hx
theorem wide_rle (cs : List Int) : wide (rle cs) = cs.length := by
  rw [← cells_len _ (rle_pos cs), cells_rle]

/-- a new memory -/
def NewMem (K : PySem.W.Frag) (C : Addr) (cs : List Int) (H : Hp) (Q : VK) : Prop :=
  ∀ m H', Fr H m → Kp [] H H' → MemAt K C H' m cs → (∀ b, Tr H b → Off H' m b) → Q (.ref m) H'
def sp_memory_of (K : PySem.W.Frag) (C : Addr) : Sp := fun vs H Q _ => ∃ (l : Addr) (cs : List Int), vs = [.ref l] ∧ Dp K H (.ref l) (.list ((rle cs).map d2)) ∧
  (1 ≤ cs.length ∧ cs.length ≤ 1000000000000000000) ∧ (rle cs).length ≤ 10000 ∧ NewMem K C cs H Q
theorem sc_memory_of : FnScope ["runs", "size", "found", "one", "many", "number"] ["runs"] (defScope s_memory_of) :=
  ⟨rfl, rfl, rfl, by decide +kernel, rfl, by decide +kernel, by decide +kernel⟩
theorem ok_memory_of {P : Program} {w : World} {K : PySem.W.Frag} {mg : Str → Option Value} {base : Heap} (T : Txt w K mg) :
    FnG P w K mg base 7 T.a_memory_of T.d_memory_of ["runs"] (sp_memory_of K T.c_Memory) := by
  refine okD T.F_memory_of sc_memory_of (fun vs H Q E h => ?_) (fun cdv A outer s H vs Q E hr h => ?_)
  · first
      | (obtain ⟨_, rfl, _⟩ := h; rfl)
      | (obtain ⟨_, _, rfl, _⟩ := h; rfl)
      | (obtain ⟨_, _, _, rfl, _⟩ := h; rfl)
      | (obtain ⟨_, _, _, _, rfl, _⟩ := h; rfl)
      | (obtain ⟨_, _, _, _, _, rfl, _⟩ := h; rfl)
      | (obtain ⟨_, _, _, _, _, _, rfl, _⟩ := h; rfl)
      | (obtain ⟨_, _, _, _, _, _, _, rfl, _⟩ := h; rfl)
      | (obtain ⟨_, _, _, _, _, _, _, _, rfl, _⟩ := h; rfl)
      | (obtain ⟨_, _, _, _, _, _, _, _, _, rfl, _⟩ := h; rfl)
      | (obtain ⟨_, _, _, _, _, _, _, _, _, _, rfl, _⟩ := h; rfl)
      | (obtain ⟨_, _, _, _, _, _, _, _, _, _, _, rfl, _⟩ := h; rfl)
      | (obtain ⟨_, _, _, _, _, _, _, _, _, _, _, _, rfl, _⟩ := h; rfl)
      | (obtain ⟨_, _, _, _, _, _, _, _, _, _, _, _, _, rfl, _⟩ := h; rfl)
      | (obtain ⟨_, _, _, _, _, _, _, _, _, _, _, _, _, _, rfl, _⟩ := h; rfl)
      | (obtain ⟨_, _, _, _, _, _, _, _, _, _, _, _, _, _, _, rfl, _⟩ := h; rfl)
      | (obtain ⟨_, _, _, _, _, _, _, _, _, _, _, _, _, _, _, _, rfl, _⟩ := h; rfl)
      | (obtain ⟨_, _, _, _, _, _, _, _, _, _, _, _, _, _, _, _, _, rfl, _⟩ := h; rfl)
      | (obtain ⟨_, _, _, _, _, _, _, _, _, _, _, _, _, _, _, _, _, _, rfl, _⟩ := h; rfl)
      | (obtain ⟨_, _, _, _, _, _, _, _, _, _, _, _, _, _, _, _, _, _, _, rfl, _⟩ := h; rfl)
  · obtain ⟨l, cs, rfl, hD, hw, hn, k⟩ := h
    have hl := hD
    cases hl
    rename_i xs hsq hall
    have hxl := dpa_len hall
    rw [List.length_map] at hxl
    have cl_Memory := T.cl_Memory
    have na_Memory_pairs := T.na_Memory_pairs
    have na_Memory_wide := T.na_Memory_wide
    have cl_Lone := T.cl_Lone
    have na_Lone_all_rows := T.na_Lone_all_rows
    have na_Lone_cells := T.na_Lone_cells
    have na_Lone_next_row := T.na_Lone_next_row
    have na_Lone_numbers := T.na_Lone_numbers
    have na_Lone_rested := T.na_Lone_rested
    have cl_Program := T.cl_Program
    have na_Program_own_rows := T.na_Program_own_rows
    have na_Program_own_size := T.na_Program_own_size
    refine ⟨_, (pss_cons (ps_if (PW.pt (pw_or (pt_not (pt_val (pe_callB (k_isi (K := K) rfl) (by rfl) T.n_isinstance (by decide +kernel) (pa_cons (pv 0) (pa_cons (pe_bltn (v := .ty "list") (by rfl) T.n_list (by decide +kernel) rfl) pa_nil))))) (pw_or1 (pt_not (pt_val (pe_callB (k_all (K := K) rfl rfl) (by rfl) T.n_all (by decide +kernel) (pa_cons (pe_lc (own := [("one", 3)]) (g := (gName 3)) (tt := tYes) rfl sc_memory_of.nd (k_plist (K := K) rfl (pv 0)) (blkOk_by (own := [("one", 3)]) (N := ["runs", "size", "found", "one", "many", "number"]) (sc := defScope s_memory_of) (by decide +kernel)) (fun _ _ _ _ _ => (pg_name (i := 3) sc_memory_of.nd rfl (Or.inl rfl))) (fun _ _ _ _ _ => pts_nil) (fun _ _ _ _ _ => (d1 (ok_is_run T) (hr.mono (by decide)) (by rfl) T.m_is_run T.F_is_run.kp T.b_is_run passL (pa_cons (pv 3) pa_nil)))) pa_nil))))))) (pss_one ps_never) pss_nil)
      (pss_cons (ps_set (i := 1) sc_memory_of.nd rfl (Or.inl rfl) (pe_callB (k_sum (K := K) rfl rfl) (by rfl) T.n_sum (by decide +kernel) (pa_cons (pe_lc (own := [("many", 4), ("number", 5)]) (g := (gTup K 2 (gCons (gName 4) (gCons (gName 5) gNil)))) (tt := tYes) rfl sc_memory_of.nd (k_plist (K := K) rfl (pv 0)) (blkOk_by (own := [("many", 4), ("number", 5)]) (N := ["runs", "size", "found", "one", "many", "number"]) (sc := defScope s_memory_of) (by decide +kernel)) (fun _ _ _ _ _ => (k_gtup (K := K) 2 rfl rfl (pgs_cons (pg_name (i := 4) sc_memory_of.nd rfl (Or.inl rfl)) (pgs_cons (pg_name (i := 5) sc_memory_of.nd rfl (Or.inl rfl)) pgs_nil)))) (fun _ _ _ _ _ => pts_nil) (fun _ _ _ _ _ => (pv 4))) pa_nil)))
      (pss_cons (ps_if (PW.pt (pw_or (pt_not (pt_val (d1 (ok_is_size T) (hr.mono (by decide)) (by rfl) T.m_is_size T.F_is_size.kp T.b_is_size passL (pa_cons (pv 1) pa_nil)))) (pw_or1 (pt_not (pt_val (d1 (ok_are_runs T) (hr.mono (by decide)) (by rfl) T.m_are_runs T.F_are_runs.kp T.b_are_runs passL (pa_cons (pv 0) (pa_cons (pv 1) pa_nil)))))))) (pss_one ps_never) pss_nil)
      (pss_cons (ps_set (i := 2) sc_memory_of.nd rfl (Or.inl rfl) (mk1 T.mk_Memory (ok_Memory_init T) (hr.mono (by decide)) (by rfl) T.mg_Memory T.b_Memory_init passL (pa_cons (pv 1) pa_nil)))
      (pss_cons (ps_expr (dm T.cl_Memory T.me_Memory_lay (ok_Memory_lay T) (hr.mono (by decide)) T.b_Memory_lay passL (pv 2) (pa_cons pe_int (pa_cons (pe_callTy (k_list (K := K) rfl) (by rfl) T.n_list (by decide +kernel) (pa_cons (pv 0) pa_nil)) (pa_cons (pv 1) pa_nil)))))
      (pss_one (ps_ret (pv 2)))))))), ?_⟩
    dsimp only [cxOf, st_1, st_2, st_3, st_4, st_5, st_6, List.length_cons, List.length_nil, List.replicate_succ, List.replicate_zero, Nat.reduceAdd, Nat.reduceSub]
    walk_at "gs"
    refine i_isD hD (show kitB "list" "list" = some true by decide +kernel) ?_
    walk_at "gs"
    refine i_mapL hsq (List.replicate xs.length (.bl true)) (by rw [List.length_replicate]) (by omega) ?_ ?_
    · intro D i x y H' Q' fD hx hy k1 q
      obtain ⟨d, hd, hdp⟩ := dpa_getV hall hx
      obtain ⟨p, hp, rfl⟩ := map_get hd
      obtain ⟨t, rfl, hT⟩ := dp_pair (dp_imm k1 _ _ rfl hdp)
      have hy2 := rep_get hy
      subst hy2
      walk_at "gs"
      exact ⟨t, p.1, p.2, rfl, hT, rle_pos cs p (List.mem_of_getElem? hp), q H' Kp.refl⟩
    intro D1 H1 fD1 k1 e1
    walk_at "gs"
    have eb : List.replicate xs.length (V.bl true) = (List.replicate xs.length true).map V.bl := by rw [List.map_replicate]
    rw [eb] at e1
    refine i_all (SqL.of e1) ?_
    rw [all_true]
    walk_at "gs"
    refine i_mapL (k1.seqL not_nil hsq) (((rle cs).map (·.1)).map V.int) (by rw [List.length_map, List.length_map]; omega) (by omega) ?_ ?_
    · intro D i x y H' Q' fD hx hy k3 q
      obtain ⟨d, hd, hdp⟩ := dpa_getV hall hx
      obtain ⟨p, hp, rfl⟩ := map_get hd
      obtain ⟨t, rfl, hT⟩ := dp_pair (dp_imm (Kp.trans k1 k3) _ _ rfl hdp)
      rw [List.getElem?_map, List.getElem?_map, hp] at hy
      cases hy
      walk_at "gs"
      exact q H' Kp.refl
    intro D2 H2 fD2 k2 e2
    walk_at "gs"
    refine i_sum (SqL.of e2) ?_
    have es : ((rle cs).map (·.1)).sum = cs.length := wide_rle cs
    rw [es]
    have k02 := Kp.trans k1 k2
    have hD2 : Dp K H2 (.ref l) (.list ((rle cs).map d2)) := .lst (k02.seqL not_nil hsq) (dpa_imm k02 _ _ (imms_d2 _) hall)
    walk_at "gs"
    refine size_int ?_
    walk_at "gs"
    refine i_decN (fun z => absurd (by omega) z) (fun _ => ?_)
    walk_at "gs"
    refine ⟨l, rle cs, cs.length, rfl, hD2, rle_pos cs, apart_wr _, by omega, wide_rle cs, fun H3 k3 => ?_⟩
    walk_at "gs"
    refine i_made fun m d hm hd nd => ?_
    refine ⟨m, d, cs.length, 0, rfl, upd_same, by omega, fun H4 k4 M4 _ => ⟨rfl, ?_⟩⟩
    have k34 := kp_made hm hd k4
    have k04 : Kp [] H H4 := Kp.trans k02 (Kp.trans k3 k34)
    have hsq4 := k04.seqL not_nil hsq
    obtain ⟨dx, lm, hmi, ldm⟩ := id M4
    walk_at "gs"
    refine i_new fun x hx => ?_
    walk_at "gs"
    have kx : Kp [] H4 (upd H4 x (.lst xs)) := Kp.new hx
    have lx : LD K (upd H4 x (.lst xs)) x ((rle cs).map d2) := ⟨xs, upd_same, dpa_imm (Kp.trans k04 kx) _ _ (imms_d2 _) hall⟩
    rw [Int.toNat_natCast] at M4
    refine ⟨m, x, 0, cs.length, List.replicate cs.length 0, rle cs, rfl, mem_upd M4 hx, lx, ?_, hn, ?_, ?_, fun H5 k5 M5 of5 => ?_⟩
    · have e := rle_one (n := cs.length) (v := 0) (by omega)
      rw [Int.toNat_natCast] at e
      rw [e]
      exact one_few
    · rw [List.length_replicate]
      omega
    · rw [cells_rle]
      omega
    · have el : laid (List.replicate cs.length 0) 0 cs cs.length = cs := by
        unfold laid
        rw [List.take_zero, List.nil_append, List.drop_eq_nil_of_le (by rw [List.length_replicate]; omega), List.append_nil]
      rw [cells_rle, Int.toNat_natCast] at M5
      have el2 : laid (List.replicate cs.length 0) (0 : Int).toNat cs cs.length = cs := el
      rw [el2] at M5
      walk_at "gs"
      have hm0 : Fr H m := (Kp.trans k02 k3).free hm
      exact k m H5 hm0 (Kp.drop (Kp.trans (Kp.wide (Kp.trans k04 kx)) k5) hm0) M5 (fun b hb => of5 b (tr_kp (Kp.trans k04 kx) hb))
def sp_copied (K : PySem.W.Frag) (C : Addr) : Sp := fun vs H Q _ => ∃ (m0 : Addr) (cs : List Int), vs = [.ref m0] ∧ MemAt K C H m0 cs ∧
  (1 ≤ cs.length ∧ cs.length ≤ 1000000000000000000) ∧ (rle cs).length ≤ 10000 ∧ NewMem K C cs H Q
theorem sc_Memory_copied : FnScope ["self"] ["self"] (defScope s_Memory_copied) :=
  ⟨rfl, rfl, rfl, by decide +kernel, rfl, by decide +kernel, by decide +kernel⟩
theorem ok_Memory_copied {P : Program} {w : World} {K : PySem.W.Frag} {mg : Str → Option Value} {base : Heap} (T : Txt w K mg) :
    FnG P w K mg base 8 T.a_Memory_copied T.d_Memory_copied ["self"] (sp_copied K T.c_Memory) := by
  refine okD T.F_Memory_copied sc_Memory_copied (fun vs H Q E h => ?_) (fun cdv A outer s H vs Q E hr h => ?_)
  · first
      | (obtain ⟨_, rfl, _⟩ := h; rfl)
      | (obtain ⟨_, _, rfl, _⟩ := h; rfl)
      | (obtain ⟨_, _, _, rfl, _⟩ := h; rfl)
      | (obtain ⟨_, _, _, _, rfl, _⟩ := h; rfl)
      | (obtain ⟨_, _, _, _, _, rfl, _⟩ := h; rfl)
      | (obtain ⟨_, _, _, _, _, _, rfl, _⟩ := h; rfl)
      | (obtain ⟨_, _, _, _, _, _, _, rfl, _⟩ := h; rfl)
      | (obtain ⟨_, _, _, _, _, _, _, _, rfl, _⟩ := h; rfl)
      | (obtain ⟨_, _, _, _, _, _, _, _, _, rfl, _⟩ := h; rfl)
      | (obtain ⟨_, _, _, _, _, _, _, _, _, _, rfl, _⟩ := h; rfl)
      | (obtain ⟨_, _, _, _, _, _, _, _, _, _, _, rfl, _⟩ := h; rfl)
      | (obtain ⟨_, _, _, _, _, _, _, _, _, _, _, _, rfl, _⟩ := h; rfl)
      | (obtain ⟨_, _, _, _, _, _, _, _, _, _, _, _, _, rfl, _⟩ := h; rfl)
      | (obtain ⟨_, _, _, _, _, _, _, _, _, _, _, _, _, _, rfl, _⟩ := h; rfl)
      | (obtain ⟨_, _, _, _, _, _, _, _, _, _, _, _, _, _, _, rfl, _⟩ := h; rfl)
      | (obtain ⟨_, _, _, _, _, _, _, _, _, _, _, _, _, _, _, _, rfl, _⟩ := h; rfl)
      | (obtain ⟨_, _, _, _, _, _, _, _, _, _, _, _, _, _, _, _, _, rfl, _⟩ := h; rfl)
      | (obtain ⟨_, _, _, _, _, _, _, _, _, _, _, _, _, _, _, _, _, _, rfl, _⟩ := h; rfl)
      | (obtain ⟨_, _, _, _, _, _, _, _, _, _, _, _, _, _, _, _, _, _, _, rfl, _⟩ := h; rfl)
  · obtain ⟨m0, cs, rfl, ⟨dx, l, hm, ld⟩, hw, hn, k⟩ := h
    have cl_Memory := T.cl_Memory
    have na_Memory_pairs := T.na_Memory_pairs
    have na_Memory_wide := T.na_Memory_wide
    have cl_Lone := T.cl_Lone
    have na_Lone_all_rows := T.na_Lone_all_rows
    have na_Lone_cells := T.na_Lone_cells
    have na_Lone_next_row := T.na_Lone_next_row
    have na_Lone_numbers := T.na_Lone_numbers
    have na_Lone_rested := T.na_Lone_rested
    have cl_Program := T.cl_Program
    have na_Program_own_rows := T.na_Program_own_rows
    have na_Program_own_size := T.na_Program_own_size
    refine ⟨_, (pss_one (ps_ret (d1 (ok_memory_of T) (hr.mono (by decide)) (by rfl) T.m_memory_of T.F_memory_of.kp T.b_memory_of passL (pa_cons (k_fld (K := K) rfl (pv 0) rfl) pa_nil)))), ?_⟩
    dsimp only [cxOf, st_1, st_2, st_3, st_4, st_5, st_6, List.length_cons, List.length_nil, List.replicate_succ, List.replicate_zero, Nat.reduceAdd, Nat.reduceSub]
    walk_at "gs"
    exact ⟨l, cs, rfl, ld.dp, hw, hn, k⟩

def sp_put (K : PySem.W.Frag) (C : Addr) : Sp := fun vs H Q _ => ∃ (m : Addr) (c v : Int) (cs : List Int),
  vs = [.ref m, .int c, .int v] ∧ MemAt K C H m cs ∧ (rle cs).length ≤ 10000 ∧ (0 ≤ c ∧ c < cs.length) ∧
  ∀ H', Kp [m] H H' → MemAt K C H' m (laid cs c.toNat [v] (c + 1).toNat) → (∀ b, Tr H b → Off H' m b) → Q .non H'
theorem sc_Memory_put : FnScope ["self", "cell", "number"] ["self", "cell", "number"] (defScope s_Memory_put) :=
  ⟨rfl, rfl, rfl, by decide +kernel, rfl, by decide +kernel, by decide +kernel⟩
theorem ok_Memory_put {P : Program} {w : World} {K : PySem.W.Frag} {mg : Str → Option Value} {base : Heap} (T : Txt w K mg) :
    FnG P w K mg base 4 T.a_Memory_put T.d_Memory_put ["self", "cell", "number"] (sp_put K T.c_Memory) := by
  refine okD T.F_Memory_put sc_Memory_put (fun vs H Q E h => ?_) (fun cdv A outer s H vs Q E hr h => ?_)
  · first
      | (obtain ⟨_, rfl, _⟩ := h; rfl)
      | (obtain ⟨_, _, rfl, _⟩ := h; rfl)
      | (obtain ⟨_, _, _, rfl, _⟩ := h; rfl)
      | (obtain ⟨_, _, _, _, rfl, _⟩ := h; rfl)
      | (obtain ⟨_, _, _, _, _, rfl, _⟩ := h; rfl)
      | (obtain ⟨_, _, _, _, _, _, rfl, _⟩ := h; rfl)
      | (obtain ⟨_, _, _, _, _, _, _, rfl, _⟩ := h; rfl)
      | (obtain ⟨_, _, _, _, _, _, _, _, rfl, _⟩ := h; rfl)
      | (obtain ⟨_, _, _, _, _, _, _, _, _, rfl, _⟩ := h; rfl)
      | (obtain ⟨_, _, _, _, _, _, _, _, _, _, rfl, _⟩ := h; rfl)
      | (obtain ⟨_, _, _, _, _, _, _, _, _, _, _, rfl, _⟩ := h; rfl)
      | (obtain ⟨_, _, _, _, _, _, _, _, _, _, _, _, rfl, _⟩ := h; rfl)
      | (obtain ⟨_, _, _, _, _, _, _, _, _, _, _, _, _, rfl, _⟩ := h; rfl)
      | (obtain ⟨_, _, _, _, _, _, _, _, _, _, _, _, _, _, rfl, _⟩ := h; rfl)
      | (obtain ⟨_, _, _, _, _, _, _, _, _, _, _, _, _, _, _, rfl, _⟩ := h; rfl)
      | (obtain ⟨_, _, _, _, _, _, _, _, _, _, _, _, _, _, _, _, rfl, _⟩ := h; rfl)
      | (obtain ⟨_, _, _, _, _, _, _, _, _, _, _, _, _, _, _, _, _, rfl, _⟩ := h; rfl)
      | (obtain ⟨_, _, _, _, _, _, _, _, _, _, _, _, _, _, _, _, _, _, rfl, _⟩ := h; rfl)
      | (obtain ⟨_, _, _, _, _, _, _, _, _, _, _, _, _, _, _, _, _, _, _, rfl, _⟩ := h; rfl)
  · obtain ⟨m, c, v, cs, rfl, hM, hn, hc, k⟩ := h
    obtain ⟨dx, l, hm, ld⟩ := id hM
    have cl_Memory := T.cl_Memory
    have na_Memory_pairs := T.na_Memory_pairs
    have na_Memory_wide := T.na_Memory_wide
    have cl_Lone := T.cl_Lone
    have na_Lone_all_rows := T.na_Lone_all_rows
    have na_Lone_cells := T.na_Lone_cells
    have na_Lone_next_row := T.na_Lone_next_row
    have na_Lone_numbers := T.na_Lone_numbers
    have na_Lone_rested := T.na_Lone_rested
    have cl_Program := T.cl_Program
    have na_Program_own_rows := T.na_Program_own_rows
    have na_Program_own_size := T.na_Program_own_size
    refine ⟨_, (pss_cons (ps_expr (d1 (ok_want_cell T) (hr.mono (by decide)) (by rfl) T.m_want_cell T.F_want_cell.kp T.b_want_cell passL (pa_cons (pv 1) (pa_cons (k_fld (K := K) rfl (pv 0) rfl) pa_nil))))
      (pss_cons (ps_expr (d1 (ok_want_number T) (hr.mono (by decide)) (by rfl) T.m_want_number T.F_want_number.kp T.b_want_number passL (pa_cons (pv 2) pa_nil)))
      (pss_one (ps_expr (dm T.cl_Memory T.me_Memory_lay (ok_Memory_lay T) (hr.mono (by decide)) T.b_Memory_lay passL (pv 0) (pa_cons (pv 1) (pa_cons (pe_lst (pa_cons (pe_tup (pa_cons pe_int (pa_cons (pv 2) pa_nil))) pa_nil)) (pa_cons (pe_op (k_add (K := K) rfl) (pv 1) pe_int) pa_nil)))))))), ?_⟩
    dsimp only [cxOf, st_1, st_2, st_3, st_4, st_5, st_6, List.length_cons, List.length_nil, List.replicate_succ, List.replicate_zero, Nat.reduceAdd, Nat.reduceSub]
    walk_at "gs"
    refine ⟨c, cs.length, rfl, by omega, ?_⟩
    walk_at "gs"
    refine ⟨v, rfl, ?_⟩
    walk_at "gs"
    refine i_new fun t ht => ?_
    walk_at "gs"
    refine i_new fun x hx => ?_
    walk_at "gs"
    have e0 : cells [((1 : Int), v)] = [v] := rfl
    refine ⟨m, x, c, c + 1, cs, [(1, v)], rfl, ?_, ⟨_, upd_same, dpa_one (dp_mk2 (a := t) (m := 1) (n := v) (by walk_at "g_st"))⟩,
      hn, one_few, by omega, by rw [e0, List.length_singleton]; omega, fun H' k1 hM1 of => ?_⟩
    · exact mem_upd (mem_upd hM (by walk_at "g_fr")) (by walk_at "g_fr")
    · rw [e0] at hM1
      walk_at "gs"
      exact k H' (by walk_at "g_kp") hM1 (fun b hb => of b (tr_upd (tr_upd hb)))

def sp_fill (K : PySem.W.Frag) (C : Addr) : Sp := fun vs H Q _ => ∃ (m : Addr) (b e v : Int) (cs : List Int),
  vs = [.ref m, .int b, .int e, .int v] ∧ MemAt K C H m cs ∧ (rle cs).length ≤ 10000 ∧ (0 ≤ b ∧ b ≤ e ∧ e ≤ cs.length) ∧
  ∀ H', Kp [m] H H' → MemAt K C H' m (laid cs b.toNat (List.replicate (e - b).toNat v) e.toNat) → (∀ b, Tr H b → Off H' m b) → Q .non H'
theorem sc_Memory_fill : FnScope ["self", "begin", "end", "number"] ["self", "begin", "end", "number"] (defScope s_Memory_fill) :=
  ⟨rfl, rfl, rfl, by decide +kernel, rfl, by decide +kernel, by decide +kernel⟩
theorem ok_Memory_fill {P : Program} {w : World} {K : PySem.W.Frag} {mg : Str → Option Value} {base : Heap} (T : Txt w K mg) :
    FnG P w K mg base 4 T.a_Memory_fill T.d_Memory_fill ["self", "begin", "end", "number"] (sp_fill K T.c_Memory) := by
  refine okD T.F_Memory_fill sc_Memory_fill (fun vs H Q E h => ?_) (fun cdv A outer s H vs Q E hr h => ?_)
  · first
      | (obtain ⟨_, rfl, _⟩ := h; rfl)
      | (obtain ⟨_, _, rfl, _⟩ := h; rfl)
      | (obtain ⟨_, _, _, rfl, _⟩ := h; rfl)
      | (obtain ⟨_, _, _, _, rfl, _⟩ := h; rfl)
      | (obtain ⟨_, _, _, _, _, rfl, _⟩ := h; rfl)
      | (obtain ⟨_, _, _, _, _, _, rfl, _⟩ := h; rfl)
      | (obtain ⟨_, _, _, _, _, _, _, rfl, _⟩ := h; rfl)
      | (obtain ⟨_, _, _, _, _, _, _, _, rfl, _⟩ := h; rfl)
      | (obtain ⟨_, _, _, _, _, _, _, _, _, rfl, _⟩ := h; rfl)
      | (obtain ⟨_, _, _, _, _, _, _, _, _, _, rfl, _⟩ := h; rfl)
      | (obtain ⟨_, _, _, _, _, _, _, _, _, _, _, rfl, _⟩ := h; rfl)
      | (obtain ⟨_, _, _, _, _, _, _, _, _, _, _, _, rfl, _⟩ := h; rfl)
      | (obtain ⟨_, _, _, _, _, _, _, _, _, _, _, _, _, rfl, _⟩ := h; rfl)
      | (obtain ⟨_, _, _, _, _, _, _, _, _, _, _, _, _, _, rfl, _⟩ := h; rfl)
      | (obtain ⟨_, _, _, _, _, _, _, _, _, _, _, _, _, _, _, rfl, _⟩ := h; rfl)
      | (obtain ⟨_, _, _, _, _, _, _, _, _, _, _, _, _, _, _, _, rfl, _⟩ := h; rfl)
      | (obtain ⟨_, _, _, _, _, _, _, _, _, _, _, _, _, _, _, _, _, rfl, _⟩ := h; rfl)
      | (obtain ⟨_, _, _, _, _, _, _, _, _, _, _, _, _, _, _, _, _, _, rfl, _⟩ := h; rfl)
      | (obtain ⟨_, _, _, _, _, _, _, _, _, _, _, _, _, _, _, _, _, _, _, rfl, _⟩ := h; rfl)
  · obtain ⟨m, b, e, v, cs, rfl, hM, hn, hc, k⟩ := h
    obtain ⟨dx, l, hm, ld⟩ := id hM
    have cl_Memory := T.cl_Memory
    have na_Memory_pairs := T.na_Memory_pairs
    have na_Memory_wide := T.na_Memory_wide
    have cl_Lone := T.cl_Lone
    have na_Lone_all_rows := T.na_Lone_all_rows
    have na_Lone_cells := T.na_Lone_cells
    have na_Lone_next_row := T.na_Lone_next_row
    have na_Lone_numbers := T.na_Lone_numbers
    have na_Lone_rested := T.na_Lone_rested
    have cl_Program := T.cl_Program
    have na_Program_own_rows := T.na_Program_own_rows
    have na_Program_own_size := T.na_Program_own_size
    refine ⟨_, (pss_cons (ps_expr (d1 (ok_want_stretch T) (hr.mono (by decide)) (by rfl) T.m_want_stretch T.F_want_stretch.kp T.b_want_stretch passL (pa_cons (pv 1) (pa_cons (pv 2) (pa_cons (k_fld (K := K) rfl (pv 0) rfl) pa_nil)))))
      (pss_cons (ps_expr (d1 (ok_want_number T) (hr.mono (by decide)) (by rfl) T.m_want_number T.F_want_number.kp T.b_want_number passL (pa_cons (pv 3) pa_nil)))
      (pss_one (ps_expr (dm T.cl_Memory T.me_Memory_lay (ok_Memory_lay T) (hr.mono (by decide)) T.b_Memory_lay passL (pv 0) (pa_cons (pv 1) (pa_cons (pe_lst (pa_cons (pe_tup (pa_cons (pe_op op_sub (pv 2) (pv 1)) (pa_cons (pv 3) pa_nil))) pa_nil)) (pa_cons (pv 2) pa_nil)))))))), ?_⟩
    dsimp only [cxOf, st_1, st_2, st_3, st_4, st_5, st_6, List.length_cons, List.length_nil, List.replicate_succ, List.replicate_zero, Nat.reduceAdd, Nat.reduceSub]
    walk_at "gs"
    refine ⟨b, e, cs.length, rfl, by omega, ?_⟩
    walk_at "gs"
    refine ⟨v, rfl, ?_⟩
    walk_at "gs"
    refine i_new fun t ht => ?_
    walk_at "gs"
    refine i_new fun x hx => ?_
    walk_at "gs"
    have e0 : cells [(e - b, v)] = List.replicate (e - b).toNat v := by rw [cells_cons, cells_nil, List.append_nil]
    refine ⟨m, x, b, e, cs, [(e - b, v)], rfl, ?_, ⟨_, upd_same, dpa_one (dp_mk2 (a := t) (m := e - b) (n := v) (by walk_at "g_st"))⟩,
      hn, one_few, by omega, by rw [e0, List.length_replicate], fun H' k1 hM1 of => ?_⟩
    · exact mem_upd (mem_upd hM (by walk_at "g_fr")) (by walk_at "g_fr")
    · rw [e0] at hM1
      walk_at "gs"
      exact k H' (by walk_at "g_kp") hM1 (fun b hb => of b (tr_upd (tr_upd hb)))

/-! ### dicts of numbers, each True; sorted -/
theorem u1 {n : Nat} (h : n + 64 < cLine) : n + 1 < cLine := Nat.lt_of_le_of_lt (Nat.add_le_add_left (by decide) n) h
theorem k_sorted {X : Cx} {K : PySem.W.Frag} (h : X.K = K) : CallR X (.builtin "sorted") (rSortedI K) := h ▸ cr_sortedI
def rListD : List V → Hp → VK → Prop := fun xs H Q => ∃ (a : Addr) (kvs : List (Key × V)), xs = [.ref a] ∧ Rd H a (.dK kvs) ∧
  ∀ p, H p = none → Q (.ref p) (upd H p (.lst (kvs.map fun kv => kV kv.1)))
theorem k_listD {X : Cx} (h : X.calm = true) : CallR X (.type "list") rListD := call_listD h
def kT (n : Int) : Key × V := (.inl n, .bl true)
def addK (ns : List Int) (n : Int) : List Int := if n ∈ ns then ns else ns ++ [n]
theorem put_kT (ns : List Int) (n : Int) : putK (ns.map kT) (.inl n) (.bl true) = (addK ns n).map kT := by
  unfold putK addK
  have e1 : ((ns.map kT).any fun kv => decide (kv.1 = Sum.inl n)) = decide (n ∈ ns) := by
    induction ns with
    | nil => rfl
    | cons m ns ih =>
      rw [List.map_cons, List.any_cons, ih]
      by_cases c : m = n
      · subst c
        simp [kT]
      · have c2 : ¬ n = m := fun z => c z.symm
        simp [kT, c, c2]
  rw [e1]
  by_cases c : n ∈ ns
  · rw [if_pos (decide_eq_true c), if_pos c, List.map_map]
    refine List.map_congr_left fun m _ => ?_
    show (if (kT m).1 = Sum.inl n then ((kT m).1, V.bl true) else kT m) = kT m
    split <;> rfl
  · rw [if_neg (by simp [c]), if_neg c, List.map_append]
    rfl
theorem addK_len (ns : List Int) (n : Int) : (addK ns n).length ≤ ns.length + 1 := by
  unfold addK
  split
  · omega
  · simp
theorem foldK_len : ∀ (ms ns : List Int), (ms.foldl addK ns).length ≤ ns.length + ms.length
  | [], ns => Nat.le_refl _
  | m :: ms, ns => by
    have h := foldK_len ms (addK ns m)
    have h2 := addK_len ns m
    rw [List.foldl_cons, List.length_cons]
    omega
theorem mem_addK {ns : List Int} {n x : Int} : x ∈ addK ns n ↔ x ∈ ns ∨ x = n := by
  unfold addK
  by_cases c : n ∈ ns
  · rw [if_pos c]
    refine ⟨.inl, fun h => h.elim id fun e => by rw [e]; exact c⟩
  · rw [if_neg c, List.mem_append, List.mem_singleton]
theorem mem_foldK {x : Int} : ∀ (ms ns : List Int), x ∈ ms.foldl addK ns ↔ x ∈ ns ∨ x ∈ ms
  | [], ns => by simp
  | m :: ms, ns => by
    rw [List.foldl_cons, mem_foldK ms, mem_addK, List.mem_cons]
    constructor
    · rintro ((h | h) | h)
      · exact .inl h
      · exact .inr (.inl h)
      · exact .inr (.inr h)
    · rintro (h | h | h)
      · exact .inl (.inl h)
      · exact .inl (.inr h)
      · exact .inr h
theorem addK_nd {ns : List Int} {n : Int} (h : ns.Nodup) : (addK ns n).Nodup := by
  unfold addK
  by_cases c : n ∈ ns
  · rw [if_pos c]
    exact h
  · rw [if_neg c]
    refine List.nodup_append.mpr ⟨h, by simp, fun a ha b hb e => ?_⟩
    rw [List.mem_singleton.mp hb] at e
    rw [e] at ha
    exact c ha
theorem foldK_nd : ∀ (ms ns : List Int), ns.Nodup → (ms.foldl addK ns).Nodup
  | [], _, h => h
  | m :: ms, ns, h => foldK_nd ms _ (addK_nd h)
section
variable {K : PySem.W.Frag} {H : Hp} {Q : VK} {a l b : Addr} {ns : List Int} {n : Int} {σ : L2.St} {xs ys : List V} {P : Hp → Prop}
theorem i_sorted (h : SqL K H a (ns.map V.int)) (q : ∀ (ns' : List Int) (p : Addr), ns'.Perm ns → ns'.Pairwise (· ≤ ·) → Fr H p → Q (.ref p) (upd H p (.lst (ns'.map V.int)))) :
    rSortedI K [.ref a] H Q := ⟨a, ns, rfl, h, fun ns' p h1 h2 h3 => q ns' p h1 h2 ⟨h3⟩⟩
theorem i_listD (h : H a = some (.dK (ns.map kT))) (q : New H fun p => Q (.ref p) (upd H p (.lst (ns.map V.int)))) : rListD [.ref a] H Q := by
  refine ⟨a, _, rfl, Rd.of h, fun p hp => ?_⟩
  have e : ((ns.map kT).map fun kv => kV kv.1) = ns.map V.int := by
    rw [List.map_map]
    rfl
  rw [e]
  exact q p hp
theorem i_setD (h : H a = some (.dK (ns.map kT))) (hl : ns.length ≤ 1000000) (q : P (upd H a (.dK ((addK ns n).map kT)))) :
    rSetD (.ref a) (.int n) (.bl true) H P := by
  refine ⟨a, _, rfl, DPut.k (k := .inl n) h (by rw [List.length_map]; exact small_sz hl), ?_⟩
  rw [put_kT]
  exact q
theorem i_dict0 (q : New H fun p => Q (.ref p) (upd (upd H p (.dK [])) p (.dK ([(0 : Int)].map kT)))) : tDisp [(tC (.int 0), tC (.bl true))] σ H Q :=
  fun p hp => ⟨upd_same, [kT 0], rfl, by decide, q p hp⟩
theorem i_extend (h1 : H l = some (.lst xs)) (h2 : H b = some (.lst ys)) (hz : xs.length + ys.length ≤ 1000000) (q : Q .non (upd H l (.lst (xs ++ ys)))) :
    rExtend (.ref l) [.ref b] H Q := ⟨l, b, xs, ys, rfl, rfl, h1, h2, Nat.le_trans hz (by decide), q⟩
end
section
variable {σ : L2.St} {H H1 : Hp} {Q : VK} {d : Addr} {g : TG} {tt : TT} {te td : TE} {vs : List Nat} {o : Obj} {ns : List Int}
def LcB (J : It) (g : TG) (tt : TT) (te : TE) (vs : List Nat) (σ : L2.St) (H1 : Hp) (Q : VK) : Prop := ∀ D, H1 D = none →
    ∃ W : Nat → Nat → Hp → Prop, (∃ m, W 0 m (upd H1 D (.lst []))) ∧ ∀ i m H, W i m H →
      (J.stop i H ∧ Q (.ref D) H) ∨ (J.go i H ∧ ∃ Nx : Hp → Prop,
        (∀ H', Nx H' → ∃ m', m' < m ∧ W (i + 1) m' H') ∧
        ∀ x H', J.yld i H x H' → g x (wipe σ vs) H' fun σ2 H2 => wipe σ2 vs = wipe σ vs ∧ tt σ2 H2 fun b H3 =>
          if b = true then te σ2 H3 fun y H4 => ∃ acc, H4 D = some (.lst acc) ∧ acc.length < sizeLine ∧
            Nx (upd H4 D (.lst (acc ++ [y]))) else Nx H3)
def LcK (x : V) (g : TG) (tt : TT) (te : TE) (vs : List Nat) (σ : L2.St) (H1 : Hp) (Q : VK) : Prop := ∃ d o, x = .ref d ∧
  ((∃ kvs, H1 d = some (.frz o (.dK kvs)) ∧ LcB (Itk d o kvs) g tt te vs σ H1 Q) ∨ ∃ kvs, H1 d = some (.frz o (.dT kvs)) ∧ LcB (Itkt d o kvs) g tt te vs σ H1 Q)
theorem i_lcK (h : td σ H fun x H1 => LcK x g tt te vs σ H1 Q) : tLc (iKeys td) g tt te vs σ H Q := h
theorem i_keyz (hd : H d = some (.frz o (.dK (ns.map kT)))) (Pv : Addr → Nat → Hp → Prop)
    (h0 : ∀ R, Fr H R → Pv R 0 (upd H R (.lst [])))
    (hl : ∀ R i H', Fr H R → Pv R i H' → H' d = some (.frz o (.dK (ns.map kT))))
    (st : ∀ R i n H', Fr H R → ns[i]? = some n → Pv R i H' → g (.int n) (wipe σ vs) H' fun σ2 H2 =>
      wipe σ2 vs = wipe σ vs ∧ tt σ2 H2 fun b H3 => if b = true then te σ2 H3 fun y H4 =>
        ∃ acc, H4 R = some (.lst acc) ∧ acc.length < sizeLine ∧ Pv R (i + 1) (upd H4 R (.lst (acc ++ [y])))
        else Pv R (i + 1) H3)
    (hdn : ∀ R H', Fr H R → Pv R ns.length H' → Q (.ref R) H') : LcK (.ref d) g tt te vs σ H Q := by
  refine ⟨d, o, rfl, .inl ⟨_, hd, fun R hR => ⟨fun i m H' => m = ns.length - i ∧ i ≤ ns.length ∧ Pv R i H', ⟨_, rfl, Nat.zero_le _, h0 R ⟨hR⟩⟩, ?_⟩⟩⟩
  rintro i m H' ⟨rfl, hi, z⟩
  have q := hl R i H' ⟨hR⟩ z
  by_cases c : i < ns.length
  · refine .inr ⟨⟨q, by rw [List.length_map]; exact c⟩, Pv R (i + 1), fun H2 w => ⟨_, by omega, rfl, c, w⟩, ?_⟩
    rintro x H2 ⟨rfl, k, v, e, rfl⟩
    obtain ⟨n, hn, e2⟩ := map_get e
    cases e2
    exact st R i n _ ⟨hR⟩ hn z
  · have e : i = ns.length := by omega
    exact .inl ⟨⟨q, by rw [List.length_map]; omega⟩, hdn R H' ⟨hR⟩ (by rw [← e]; exact z)⟩
end

/-! ### small things -/
theorem kp_set {H : Hp} {d : Addr} {u v : HO} (h : H d = some u) (nu : ¬ Fix u) : Kp [d] H (upd H d v) := Kp.mut h nu (List.mem_singleton.mpr rfl)
theorem Any.tg {K : PySem.W.Frag} {H : Hp} {ws : List Addr} {v : V} {d : PyData} (t : Tg K H ws v d) : Any K H v d := ⟨t.ty, fun n e => by
  subst e
  rcases t with h | ⟨e, _⟩
  · cases h
    rfl
  · cases e⟩
theorem fr_not_tr {H : Hp} {b : Addr} (f : Fr H b) (t : Tr H b) : False := fr_tr t f rfl

/-! ### for over enumerate(list) -/
section
variable {K : PySem.W.Frag} {g : TG} {tb : TS} {D : Ends} {σ : L2.St} {H H1 : Hp} {a : Addr} {xs : List V} {ta : TA}
def ForE (K : PySem.W.Frag) (vs : List V) (g : TG) (tb : TS) (D : Ends) (σ : L2.St) (H1 : Hp) : Prop := ∃ a xs, vs = [.ref a] ∧ SqL K H1 a xs ∧ ∃ W : Nat → Nat → L2.St → Hp → Prop, (∃ m, W 0 m σ H1) ∧ ∀ i m σ H, W i m σ H →
  ((Ite K a).stop i H ∧ D.nx σ H) ∨ ((Ite K a).go i H ∧ ∃ N : L2.St → Hp → Prop, (∀ σ' H', N σ' H' → ∃ m', m' < m ∧ W (i + 1) m' σ' H') ∧ ∀ x H', (Ite K a).yld i H x H' → g x σ H' fun σ2 H2 => tb { D with nx := N, ct := N, bk := D.nx } σ2 H2)
theorem i_forE (h : ta σ H fun vs H1 => ForE K vs g tb D σ H1) : tFor (iEnum K ta) g tb D σ H := h
theorem i_eachE (hs : SqL K H a xs) (Pv : Nat → L2.St → Hp → Prop) (h0 : Pv 0 σ H) (hl : ∀ i σ H, i ≤ xs.length → Pv i σ H → SqL K H a xs)
    (st : ∀ i x T σ H, xs[i]? = some x → Pv i σ H → Fr H T → g (.ref T) σ (upd H T (.tup [.int (i : Nat), x])) fun σ2 H2 => tb { D with nx := Pv (i + 1), ct := Pv (i + 1), bk := D.nx } σ2 H2)
    (hdn : ∀ σ H, Pv xs.length σ H → D.nx σ H) : ForE K [.ref a] g tb D σ H := by
  refine ⟨a, xs, rfl, hs, fun i m σ H => m = xs.length - i ∧ i ≤ xs.length ∧ Pv i σ H, ⟨_, rfl, Nat.zero_le _, h0⟩, ?_⟩
  rintro i m σ H' ⟨rfl, hi, z⟩
  have q := hl i σ H' hi z
  by_cases c : i < xs.length
  · refine .inr ⟨⟨xs, xs[i], q, List.getElem?_eq_getElem c⟩, Pv (i + 1), fun σ2 H2 w => ⟨_, by omega, rfl, c, w⟩, ?_⟩
    rintro x H2 ⟨T, y, rfl, hT, rfl, hy⟩
    exact st i y T σ _ (hy xs q) z ⟨hT⟩
  · have e : i = xs.length := by omega
    exact .inl ⟨⟨xs, q, by omega⟩, hdn σ H' (by rw [← e]; exact z)⟩
end
theorem cutV_from {xs : List V} {k : Nat} (h : k ≤ xs.length) : cutV xs (some (k : Int)) none = xs.drop k := by
  unfold cutV
  rw [HT.sIx_none, HT.sIx_nat, Nat.min_eq_left h]
  exact List.take_of_length_le (by rw [List.length_drop]; omega)

theorem i_base {K : PySem.W.Frag} {B n1 n2 : String} {tl : List Value} {ta : TA} {σ : L2.St} {H : Hp} {Q : VK} (h : ta σ H fun vs H1 => ∃ (a C : Addr) (ws : List V), vs = .ref a :: ws ∧ ws.length ≤ 1000 ∧ XC K C B n1 n2 tl ∧ H1 a = some (exo a C none) ∧ Q .non H1) :
    tBase K B n1 n2 tl ta σ H Q := h
theorem i_put {K : PySem.W.Frag} {B n1 n2 : String} {tl : List Value} {f : Str} {to te : TE} {D : Ends} {σ : L2.St} {H : Hp} (h : te σ H fun y H1 => to σ H1 fun x H2 =>
    ∃ a C : Addr, x = .ref a ∧ XC K C B n1 n2 tl ∧ PySem.W.findIn K (.ref C) f = some none ∧ H2 a = some (exo a C none) ∧
      ∀ dx, H2 dx = none → dx ≠ a → D.nx σ (upd (upd H2 dx (exd dx [(f, y)])) a (exo a C (some dx)))) : tPut K B n1 n2 tl f to te D σ H := h
--%%M
local macro_rules | `(tactic| walk_at "g_own") => `(tactic| first
  | (with_reducible refine i_put ?_)
  | (with_reducible refine i_base ?_)
  | (with_reducible refine i_callX0 ?_)
  | (with_reducible refine i_callX ?_))
--%%E
def sp_xinit (C : Addr) (f : Str) : Sp := fun vs H Q _ => ∃ (a : Addr) (y : V), vs = [.ref a, y] ∧ H a = some (exo a C none) ∧
  ∀ dx, H dx = none → dx ≠ a → Q .non (upd (upd H dx (exd dx [(f, y)])) a (exo a C (some dx)))
theorem i_newX {C : Addr} {f : Str} {ta : TA} {σ : L2.St} {H : Hp} {Q : XK} (h : ta σ H fun vs H1 => ∃ v, vs = [v] ∧ ∀ d, Fr H1 d → Q (.ref C) (some d) (upd H1 d (.xd [(f, v)])))
    (mono : ∀ {P P' : List V → Hp → Prop}, (∀ vs H1, P vs H1 → P' vs H1) → ta σ H P → ta σ H P') : tNewX C (sp_xinit C f) ta σ H Q := by
  refine mono ?_ h
  rintro vs H1 ⟨v, rfl, k⟩
  refine ⟨by rw [List.length_singleton]; decide, fun a na => ⟨a, v, rfl, upd_same, fun dx n ne => ⟨rfl, dx, [(f, v)], upd_same, ?_, ?_, ?_⟩⟩⟩
  · rw [upd_ne ne]
    exact upd_same
  · rw [upd_ne ne] at n
    exact n
  · have n2 : H1 dx = none := by
      rw [upd_ne ne] at n
      exact n
    have e : upd (L2.del (upd (upd (upd H1 a (exo a C none)) dx (exd dx [(f, v)])) a (exo a C (some dx))) a) dx (.xd [(f, v)]) = upd H1 dx (.xd [(f, v)]) := by
      funext b
      by_cases z : b = dx
      · rw [z, upd_same, upd_same]
      · rw [upd_ne z, upd_ne z]
        by_cases z2 : b = a
        · rw [z2, L2.del_same, na]
        · rw [L2.del_ne z2, upd_ne z2, upd_ne z, upd_ne z2]
    rw [e]
    exact k dx ⟨n2⟩
theorem mono_cons {te : TE} {tr : TA} {σ : L2.St} {H : Hp} (h1 : ∀ {P P' : VK}, (∀ v H1, P v H1 → P' v H1) → te σ H P → te σ H P') (h2 : ∀ {H1 : Hp} {P P' : List V → Hp → Prop}, (∀ vs H2, P vs H2 → P' vs H2) → tr σ H1 P → tr σ H1 P')
    {P P' : List V → Hp → Prop} (k : ∀ vs H1, P vs H1 → P' vs H1) (z : tCons te tr σ H P) : tCons te tr σ H P' :=
  h1 (fun v H1 q => h2 (fun vs H2 r => k _ _ r) q) z
theorem mono_var {i : Nat} {σ : L2.St} {H : Hp} {P P' : VK} (k : ∀ v H1, P v H1 → P' v H1) (z : tVar i σ H P) : tVar i σ H P' := by
  obtain ⟨v, e, q⟩ := z
  exact ⟨v, e, k _ _ q⟩
theorem mono_nil {σ : L2.St} {H : Hp} {P P' : List V → Hp → Prop} (k : ∀ vs H1, P vs H1 → P' vs H1) (z : tNil σ H P) : tNil σ H P' := k _ _ z
theorem mono_c {c : V} {σ : L2.St} {H : Hp} {P P' : VK} (k : ∀ v H1, P v H1 → P' v H1) (z : tC c σ H P) : tC c σ H P' := k _ _ z

/-! ### what may stand where a sort is wanted -/
def limS (s : Str) (size many : Int) : Int := if s = "c" then size else if s = "r" then many + 1 else size + 1
def fitS (s : Str) (d : PyData) (size many : Int) : Bool := match d with
  | .int n => if s = "n" then true else decide (0 ≤ n ∧ n < limS s size many)
  | _ => false
def sorts5 : List Str := ["c", "n", "r", "b", "e"]
def fKs (size many : Int) : List (Key × V) := [(.inr "c", .int size), (.inr "r", .int (many + 1)), (.inr "b", .int (size + 1)), (.inr "e", .int (size + 1))]
def DispF (p : Addr) (Q : VK) (v1 v2 v3 v4 : V) (H : Hp) : Prop := H p = some (.dK []) ∧ ∃ kvs : List (Key × V), [(V.str "c", v1), (V.str "r", v2), (V.str "b", v3), (V.str "e", v4)] = kvs.map (fun kv => (kV kv.1, kv.2)) ∧ kvs.length ≤ 15 ∧ Q (.ref p) (upd H p (.dK (mergeK [] kvs)))
theorem i_dispF {σ : L2.St} {H : Hp} {Q : VK} {t1 t2 t3 t4 : TE} (q : ∀ p, Fr H p → t1 σ (upd H p (.dK [])) fun v1 H1 => t2 σ H1 fun v2 H2 => t3 σ H2 fun v3 H3 => t4 σ H3 fun v4 H4 => DispF p Q v1 v2 v3 v4 H4) :
    tDisp [(tC (.str "c"), t1), (tC (.str "r"), t2), (tC (.str "b"), t3), (tC (.str "e"), t4)] σ H Q := fun p hp => q p ⟨hp⟩
theorem i_dispFe {p : Addr} {Q : VK} {size many : Int} {H : Hp} (h : H p = some (.dK [])) (q : Q (.ref p) (upd H p (.dK (fKs size many)))) : DispF p Q (.int size) (.int (many + 1)) (.int (size + 1)) (.int (size + 1)) H := ⟨h, fKs size many, rfl, by show 4 ≤ 15; decide, q⟩
theorem fKs_get {s : Str} {size many : Int} (h : s ∈ sorts5) (n : s ≠ "n") : valV (fKs size many) (.inr s) = some (.int (limS s size many)) := by
  simp only [sorts5, List.mem_cons, List.not_mem_nil, or_false] at h
  rcases h with rfl | rfl | rfl | rfl | rfl
  · rfl
  · exact absurd rfl n
  · rfl
  · rfl
  · rfl
theorem dget_s {H : Hp} {a : Addr} {kvs : List (Key × V)} {z : Str} {v : V} (hd : H a = some (.dK kvs)) (hv : valV kvs (.inr z) = some v) : DGet H a (.str z) (some v) := by
  have e := DGet.k (k := .inr z) hd
  rw [hv] at e
  exact e
def sp_fits (K : PySem.W.Frag) : Sp := fun vs H Q _ => ∃ (s : Str) (v : V) (d : PyData) (size many : Int), vs = [.str s, v, .int size, .int many] ∧ s ∈ sorts5 ∧ Any K H v d ∧ ∀ H', Kp [] H H' → Q (.bl (fitS s d size many)) H'
theorem sc_fits : FnScope ["sort", "thing", "size", "many"] ["sort", "thing", "size", "many"] (defScope s_fits) :=
  ⟨rfl, rfl, rfl, by decide +kernel, rfl, by decide +kernel, by decide +kernel⟩
theorem ok_fits {P : Program} {w : World} {K : PySem.W.Frag} {mg : Str → Option Value} {base : Heap} (T : Txt w K mg) :
    FnG P w K mg base 2 T.a_fits T.d_fits ["sort", "thing", "size", "many"] (sp_fits K) := by
  refine okD T.F_fits sc_fits (fun vs H Q E h => ?_) (fun cdv A outer s H vs Q E hr h => ?_)
  · first
      | (obtain ⟨_, rfl, _⟩ := h; rfl)
      | (obtain ⟨_, _, rfl, _⟩ := h; rfl)
      | (obtain ⟨_, _, _, rfl, _⟩ := h; rfl)
      | (obtain ⟨_, _, _, _, rfl, _⟩ := h; rfl)
      | (obtain ⟨_, _, _, _, _, rfl, _⟩ := h; rfl)
      | (obtain ⟨_, _, _, _, _, _, rfl, _⟩ := h; rfl)
      | (obtain ⟨_, _, _, _, _, _, _, rfl, _⟩ := h; rfl)
      | (obtain ⟨_, _, _, _, _, _, _, _, rfl, _⟩ := h; rfl)
      | (obtain ⟨_, _, _, _, _, _, _, _, _, rfl, _⟩ := h; rfl)
      | (obtain ⟨_, _, _, _, _, _, _, _, _, _, rfl, _⟩ := h; rfl)
      | (obtain ⟨_, _, _, _, _, _, _, _, _, _, _, rfl, _⟩ := h; rfl)
      | (obtain ⟨_, _, _, _, _, _, _, _, _, _, _, _, rfl, _⟩ := h; rfl)
      | (obtain ⟨_, _, _, _, _, _, _, _, _, _, _, _, _, rfl, _⟩ := h; rfl)
      | (obtain ⟨_, _, _, _, _, _, _, _, _, _, _, _, _, _, rfl, _⟩ := h; rfl)
      | (obtain ⟨_, _, _, _, _, _, _, _, _, _, _, _, _, _, _, rfl, _⟩ := h; rfl)
      | (obtain ⟨_, _, _, _, _, _, _, _, _, _, _, _, _, _, _, _, rfl, _⟩ := h; rfl)
      | (obtain ⟨_, _, _, _, _, _, _, _, _, _, _, _, _, _, _, _, _, rfl, _⟩ := h; rfl)
      | (obtain ⟨_, _, _, _, _, _, _, _, _, _, _, _, _, _, _, _, _, _, rfl, _⟩ := h; rfl)
      | (obtain ⟨_, _, _, _, _, _, _, _, _, _, _, _, _, _, _, _, _, _, _, rfl, _⟩ := h; rfl)
  · obtain ⟨s, v, d, size, many, rfl, hs, hd, k⟩ := h
    refine ⟨_, (pss_cons (ps_if (pt_not (pt_val (d1 (ok_is_number T) (hr.mono (by decide)) (by rfl) T.m_is_number T.F_is_number.kp T.b_is_number passL (pa_cons (pv 1) pa_nil)))) (pss_one (ps_ret pe_bl)) pss_nil)
      (pss_cons (ps_if (pt_cmpR (k_eq (K := K) rfl hr.r.units) (pv 0) pe_str (nomark _)) (pss_one (ps_ret pe_bl)) pss_nil)
      (pss_one (ps_ret (pe_chain op_le op_lt pe_int (pv 1) (pe_dget (u1 hr.r.units) (pe_disp (pps_cons pe_str (pv 2) (pps_cons pe_str (pe_op (k_add (K := K) rfl) (pv 3) pe_int) (pps_cons pe_str (pe_op (k_add (K := K) rfl) (pv 2) pe_int) (pps_cons pe_str (pe_op (k_add (K := K) rfl) (pv 2) pe_int) pps_nil)))) (by rfl) (by rfl) (fun z => by cases z) (by decide)) (pv 0) (fun _ _ => rfl))))))), ?_⟩
    dsimp only [cxOf, st_1, st_2, st_3, st_4, st_5, st_6, List.length_cons, List.length_nil, List.replicate_succ, List.replicate_zero, Nat.reduceAdd, Nat.reduceSub]
    walk_at "gs"
    refine ⟨v, d, rfl, hd, ?_⟩
    walk_at "gs"
    refine i_bool2 (fun c => ?_) (fun c => ?_)
    · have e : isI d = false := by cases h : isI d <;> simp [h] at c ⊢
      have e2 : fitS s d size many = false := by
        cases d with
        | int n => cases e
        | _ => rfl
      walk_at "gs"
      rw [← e2]
      exact k H Kp.refl
    · have e : isI d = true := by cases h : isI d <;> simp [h] at c ⊢
      obtain ⟨n, rfl⟩ := isI_int e
      obtain rfl := hd.2 n rfl
      walk_at "gs"
      refine i_dec (fun e => ?_) (fun ne => ?_)
      · walk_at "gs"
        have e2 : fitS s (.int n) size many = true := by
          simp only [fitS]
          rw [if_pos e]
        rw [← e2]
        exact k H Kp.refl
      · have e2 : fitS s (.int n) size many = decide (0 ≤ n ∧ n < limS s size many) := by
          simp only [fitS]
          rw [if_neg ne]
        rw [e2] at k
        walk_at "gs"
        refine i_dec (fun h0 => ?_) (fun h0 => ?_)
        · walk_at "gs"
          refine i_dispF fun p fp => ?_
          walk_at "gs"
          refine i_dispFe upd_same ?_
          walk_at "gs"
          refine ⟨p, _, rfl, dget_s upd_same (fKs_get hs ne), ?_⟩
          walk_at "gs"
          have e3 : decide (0 ≤ n ∧ n < limS s size many) = decide (n < limS s size many) := by
            simp only [h0, true_and]
          rw [e3] at k
          have kp : Kp [] H (upd H p (.dK [])) := Kp.new fp
          have kq : Kp [p] (upd H p (.dK [])) (upd (upd H p (.dK [])) p (.dK (fKs size many))) := kp_set upd_same (fun z => z)
          exact k _ ((Kp.trans kp.wide kq).dropAll fun b hb => .inr (by rw [List.mem_singleton.mp hb]; exact fp))
        · have e3 : decide (0 ≤ n ∧ n < limS s size many) = false := decide_eq_false fun z => h0 z.1
          rw [e3] at k
          walk_at "gs"
          exact k H Kp.refl

/-! ### is_program_row, of anything -/
def sgn (s : Str) : List Str := s.cps.toList.map fun c => ⟨#[c]⟩
theorem signs_sgn (s : Str) : signs s = (sgn s).map V.str := by
  unfold signs sgn
  rw [List.map_map]
  rfl
def fitAll (ss : List Str) (ds : List PyData) (size many : Int) : Bool := (ss.zip ds).all fun q => fitS q.1 q.2 size many
def leFill : List PyData → Bool
  | .int a :: .int b :: _ => decide (a ≤ b)
  | _ => false
def rowTail (z s : Str) (ds : List PyData) (size many : Int) : Bool := decide (ds.length = (sgn s).length) && (fitAll (sgn s) ds size many && (decide (z ≠ "fill") || leFill ds))
def rowOk (d : PyData) (size many : Int) : Bool := match d with
  | .tuple (.str z :: ds) => match kv_SHAPES.lookup z with
    | some s => rowTail z s ds size many
    | none => false
  | _ => false
theorem kv_look {z s : Str} (h : (z, s) ∈ kv_SHAPES) : kv_SHAPES.lookup z = some s ∧ (∀ x ∈ sgn s, x ∈ sorts5) ∧ (sgn s).length ≤ 3 ∧ s.length = (sgn s).length := by
  simp only [kv_SHAPES, List.mem_cons, List.not_mem_nil, or_false, Prod.mk.injEq] at h
  rcases h with ⟨rfl, rfl⟩ | ⟨rfl, rfl⟩ | ⟨rfl, rfl⟩ | ⟨rfl, rfl⟩ | ⟨rfl, rfl⟩ | ⟨rfl, rfl⟩ | ⟨rfl, rfl⟩ | ⟨rfl, rfl⟩ | ⟨rfl, rfl⟩ | ⟨rfl, rfl⟩ | ⟨rfl, rfl⟩ | ⟨rfl, rfl⟩ <;> exact ⟨by decide +kernel, by decide +kernel, by decide +kernel, by decide +kernel⟩
theorem kv_some {z : Str} (h : z ∈ kv_SHAPES.map (·.1)) : ∃ s, (z, s) ∈ kv_SHAPES := by
  obtain ⟨q, hq, rfl⟩ := List.mem_map.mp h
  exact ⟨q.2, hq⟩
theorem kv_none {z : Str} (h : z ∉ kv_SHAPES.map (·.1)) : kv_SHAPES.lookup z = none := by
  have gen : ∀ l : List (Str × Str), z ∉ l.map (·.1) → l.lookup z = none := by
    intro l
    induction l with
    | nil => intro _; rfl
    | cons q l ih =>
      intro h
      rw [List.map_cons, List.mem_cons, not_or] at h
      obtain ⟨k, v⟩ := q
      rw [List.lookup_cons, ih h.2]
      have : (z == k) = false := by
        rw [beq_eq_false_iff_ne]
        exact h.1
      rw [this]
  exact gen _ h
theorem leFill_of {size many : Int} {ds : List PyData} (h : fitAll (sgn "bec") ds size many = true) (l : ds.length = 3) : ∃ a b c, ds = [.int a, .int b, .int c] := by
  match ds, l with
  | [x, y, w], _ =>
    have e : sgn "bec" = ([Str.ofString "b", Str.ofString "e", Str.ofString "c"] : List Str) := by decide +kernel
    rw [e] at h
    simp only [fitAll, List.zip_cons_cons, List.zip_nil_left, List.all_cons, List.all_nil, Bool.and_true, Bool.and_eq_true] at h
    obtain ⟨h1, h2, h3⟩ := h
    have i : ∀ {s : Str} {d : PyData}, fitS s d size many = true → ∃ n, d = .int n := fun {s d} h => by
      cases d with
      | int n => exact ⟨n, rfl⟩
      | _ => cases h
    obtain ⟨a, rfl⟩ := i h1
    obtain ⟨b, rfl⟩ := i h2
    obtain ⟨c, rfl⟩ := i h3
    exact ⟨a, b, c, rfl⟩
def kStr : PyData → Bool
  | .str _ => true
  | _ => false
theorem kit_str (d : PyData) : kitB (dty d) "str" = some (kStr d) := by cases d <;> (simp only [dty, kStr]; decide +kernel)
theorem signs_len (s : Str) : (signs s).length = (sgn s).length := by rw [signs_sgn, List.length_map]
theorem signs_at {s : Str} {i : Nat} {u : V} (h : (signs s)[i]? = some u) : ∃ t, (sgn s)[i]? = some t ∧ u = .str t := by
  rw [signs_sgn, List.getElem?_map] at h
  cases e : (sgn s)[i]? with
  | none => rw [e] at h; cases h
  | some t => rw [e] at h; cases h; exact ⟨t, rfl, rfl⟩
def sp_isrow (K : PySem.W.Frag) : Sp := fun vs H Q _ => ∃ (v : V) (d : PyData) (size many : Int), vs = [v, .int size, .int many] ∧ Tg K H [] v d ∧ (∀ ds, d = .tuple ds → SeqAt.shaped d = true ∧ ds.length ≤ 1000) ∧ ∀ H', Kp [] H H' → Q (.bl (rowOk d size many)) H'
theorem sc_is_program_row : FnScope ["thing", "size", "many", "word", "things", "sort", "one"] ["thing", "size", "many"] (defScope s_is_program_row) :=
  ⟨rfl, rfl, rfl, by decide +kernel, rfl, by decide +kernel, by decide +kernel⟩
theorem ok_is_program_row {P : Program} {w : World} {K : PySem.W.Frag} {mg : Str → Option Value} {base : Heap} (T : Txt w K mg) :
    FnG P w K mg base 3 T.a_is_program_row T.d_is_program_row ["thing", "size", "many"] (sp_isrow K) := by
  refine okD T.F_is_program_row sc_is_program_row (fun vs H Q E h => ?_) (fun cdv A outer s H vs Q E hr h => ?_)
  · first
      | (obtain ⟨_, rfl, _⟩ := h; rfl)
      | (obtain ⟨_, _, rfl, _⟩ := h; rfl)
      | (obtain ⟨_, _, _, rfl, _⟩ := h; rfl)
      | (obtain ⟨_, _, _, _, rfl, _⟩ := h; rfl)
      | (obtain ⟨_, _, _, _, _, rfl, _⟩ := h; rfl)
      | (obtain ⟨_, _, _, _, _, _, rfl, _⟩ := h; rfl)
      | (obtain ⟨_, _, _, _, _, _, _, rfl, _⟩ := h; rfl)
      | (obtain ⟨_, _, _, _, _, _, _, _, rfl, _⟩ := h; rfl)
      | (obtain ⟨_, _, _, _, _, _, _, _, _, rfl, _⟩ := h; rfl)
      | (obtain ⟨_, _, _, _, _, _, _, _, _, _, rfl, _⟩ := h; rfl)
      | (obtain ⟨_, _, _, _, _, _, _, _, _, _, _, rfl, _⟩ := h; rfl)
      | (obtain ⟨_, _, _, _, _, _, _, _, _, _, _, _, rfl, _⟩ := h; rfl)
      | (obtain ⟨_, _, _, _, _, _, _, _, _, _, _, _, _, rfl, _⟩ := h; rfl)
      | (obtain ⟨_, _, _, _, _, _, _, _, _, _, _, _, _, _, rfl, _⟩ := h; rfl)
      | (obtain ⟨_, _, _, _, _, _, _, _, _, _, _, _, _, _, _, rfl, _⟩ := h; rfl)
      | (obtain ⟨_, _, _, _, _, _, _, _, _, _, _, _, _, _, _, _, rfl, _⟩ := h; rfl)
      | (obtain ⟨_, _, _, _, _, _, _, _, _, _, _, _, _, _, _, _, _, rfl, _⟩ := h; rfl)
      | (obtain ⟨_, _, _, _, _, _, _, _, _, _, _, _, _, _, _, _, _, _, rfl, _⟩ := h; rfl)
      | (obtain ⟨_, _, _, _, _, _, _, _, _, _, _, _, _, _, _, _, _, _, _, rfl, _⟩ := h; rfl)
  · obtain ⟨v, d, size, many, rfl, hd, ll0, k⟩ := h
    have any := Any.tg hd
    refine ⟨_, (pss_cons (ps_if (PW.pt (pw_or (pt_not (pt_val (pe_callB (k_isi (K := K) rfl) (by rfl) T.n_isinstance (by decide +kernel) (pa_cons (pv 0) (pa_cons (pe_bltn (v := .ty "tuple") (by rfl) T.n_tuple (by decide +kernel) rfl) pa_nil))))) (pw_or (pt_cmpR (k_eq (K := K) rfl hr.r.units) (pv 0) (pe_tup pa_nil) (nomark _)) (pw_or (pt_not (pt_val (pe_callB (k_isi (K := K) rfl) (by rfl) T.n_isinstance (by decide +kernel) (pa_cons (pe_ix (k_ix (K := K) rfl) (pv 0) pe_int (fun _ _ => rfl)) (pa_cons (pe_bltn (v := .ty "str") (by rfl) T.n_str (by decide +kernel) rfl) pa_nil))))) (pw_or1 (pt_cmpR (op_notInT T.D_SHAPES) (pe_ix (k_ix (K := K) rfl) (pv 0) pe_int (fun _ _ => rfl)) (pe_glob (v := .ref T.a_SHAPES) rfl T.g_SHAPES rfl) (rfl))))))) (pss_one (ps_ret pe_bl)) pss_nil)
      (pss_cons (ps_asg (pv 0) (k_gstar (K := K) rfl rfl (pgs_cons (pg_name (i := 3) sc_is_program_row.nd rfl (Or.inl rfl)) (pgs_star (pg_name (i := 4) sc_is_program_row.nd rfl (Or.inl rfl)) pgs_nil))))
      (pss_cons (ps_if (pt_cmpR (k_ne (K := K) rfl hr.r.units) (pe_callB (k_len (K := K) rfl) (by rfl) T.n_len (by decide +kernel) (pa_cons (pv 4) pa_nil)) (pe_callB (k_len (K := K) rfl) (by rfl) T.n_len (by decide +kernel) (pa_cons (pe_ix (ix_itemT T.D_SHAPES) (pe_glob (v := .ref T.a_SHAPES) rfl T.g_SHAPES rfl) (pv 3) (fun _ _ => rfl)) pa_nil)) (nomark _)) (pss_one (ps_ret pe_bl)) pss_nil)
      (pss_cons (ps_if (pt_not (pt_val (pe_callB (k_all (K := K) rfl rfl) (by rfl) T.n_all (by decide +kernel) (pa_cons (pe_lc (own := [("sort", 5), ("one", 6)]) (g := (gTup K 2 (gCons (gName 5) (gCons (gName 6) gNil)))) (tt := tYes) rfl sc_is_program_row.nd (k_pzipX (K := K) rfl (by rfl) T.n_zip (pa_cons (pe_ix (ix_itemT T.D_SHAPES) (pe_glob (v := .ref T.a_SHAPES) rfl T.g_SHAPES rfl) (pv 3) (fun _ _ => rfl)) (pa_cons (pv 4) pa_nil))) (blkOk_by (own := [("sort", 5), ("one", 6)]) (N := ["thing", "size", "many", "word", "things", "sort", "one"]) (sc := defScope s_is_program_row) (by decide +kernel)) (fun _ _ _ _ _ => (k_gtup (K := K) 2 rfl rfl (pgs_cons (pg_name (i := 5) sc_is_program_row.nd rfl (Or.inl rfl)) (pgs_cons (pg_name (i := 6) sc_is_program_row.nd rfl (Or.inl rfl)) pgs_nil)))) (fun _ _ _ _ _ => pts_nil) (fun _ _ _ _ _ => (d1 (ok_fits T) (hr.mono (by decide)) (by rfl) T.m_fits T.F_fits.kp T.b_fits passL (pa_cons (pv 5) (pa_cons (pv 6) (pa_cons (pv 1) (pa_cons (pv 2) pa_nil))))))) pa_nil)))) (pss_one (ps_ret pe_bl)) pss_nil)
      (pss_one (ps_ret (pe_or (pe_cmpR (k_ne (K := K) rfl hr.r.units) (pv 3) pe_str (nomark _)) (pe_one (pe_cmpR op_le (pe_ix (k_ix (K := K) rfl) (pv 4) pe_int (fun _ _ => rfl)) (pe_ix (k_ix (K := K) rfl) (pv 4) pe_int (fun _ _ => rfl)) (nomark _)))))))))), ?_⟩
    dsimp only [cxOf, st_1, st_2, st_3, st_4, st_5, st_6, List.length_cons, List.length_nil, List.replicate_succ, List.replicate_zero, Nat.reduceAdd, Nat.reduceSub]
    walk_at "gs"
    refine i_isA any (kit_tup d) ?_
    walk_at "gs"
    refine i_bool2 (fun c => ?_) (fun c => ?_)
    · have e : rowOk d size many = false := by
        cases d with
        | tuple ds => cases c
        | _ => rfl
      walk_at "gs"
      rw [← e]
      exact k H Kp.refl
    · obtain ⟨ds, rfl⟩ : ∃ ds, d = .tuple ds := by
        cases d with
        | tuple ds => exact ⟨ds, rfl⟩
        | _ => cases c
      obtain ⟨a, xs, rfl, hs, ha⟩ : ∃ a xs, v = .ref a ∧ SqT K H a xs ∧ DxAll K H [] xs ds := by
        rcases hd with h | ⟨e, _⟩
        · cases h with
          | tup hs ha => exact ⟨_, _, rfl, hs, ha⟩
        · cases e
      obtain ⟨sd, ll⟩ := ll0 ds rfl
      walk_at "gs"
      refine i_new fun E0 fE0 => ?_
      have kE : Kp [] H (upd H E0 (.tup [])) := Kp.new fE0
      have hE0 : SqT K (upd H E0 (.tup [])) E0 [] := SqT.of upd_same
      obtain ⟨H1, e1⟩ : ∃ H1, H1 = upd H E0 (.tup []) := ⟨_, rfl⟩
      rw [← e1] at kE hE0 ⊢
      have hs1 := kE.seqT hs
      have ha1 := ha.kp kE _ _
      walk_at "gs"
      refine i_eqD (d := .tuple ds) (e := .tuple []) (.tup hs1 (DxAll.dp _ _ ha1)) (.tup hE0 .nil) sd rfl ?_
      rcases ds with _ | ⟨d0, ds⟩
      · rw [show PyData.eqv (.tuple []) (.tuple []) = true from rfl]
        walk_at "gs"
        exact k H1 kE
      rw [show PyData.eqv (.tuple (d0 :: ds)) (.tuple []) = false from rfl]
      obtain ⟨x0, xs, rfl, h0, hb1⟩ : ∃ x0 xs', xs = x0 :: xs' ∧ Dx K H1 [] x0 d0 ∧ DxAll K H1 [] xs' ds := by
        cases ha1 with
        | cons h1 h2 => exact ⟨_, _, rfl, h1, h2⟩
      have lds := ll
      rw [List.length_cons] at lds
      have lxs := dxa_len hb1
      walk_at "gs"
      refine i_isA (Any.dp (h0.dp _ _)) (kit_str d0) ?_
      walk_at "gs"
      refine i_bool2 (fun c0 => ?_) (fun c0 => ?_)
      · have e : rowOk (.tuple (d0 :: ds)) size many = false := by
          cases d0 with
          | str z => cases c0
          | _ => rfl
        walk_at "gs"
        rw [← e]
        exact k H1 kE
      obtain ⟨z, rfl⟩ : ∃ z, d0 = .str z := by
        cases d0 with
        | str z => exact ⟨z, rfl⟩
        | _ => cases c0
      obtain rfl : x0 = .str z := by
        cases h0
        rfl
      walk_at "gs"
      refine ⟨z, rfl, rfl, ?_⟩
      walk_at "gs"
      refine i_dec (fun cz => ?_) (fun cz => ?_)
      · have e : rowOk (.tuple (.str z :: ds)) size many = false := by
          simp only [rowOk]
          rw [kv_none cz]
        walk_at "gs"
        rw [← e]
        exact k H1 kE
      obtain ⟨s, hzs⟩ := kv_some (Decidable.not_not.mp cz)
      obtain ⟨lk, s5, s3, sl⟩ := kv_look hzs
      have er : rowOk (.tuple (.str z :: ds)) size many = rowTail z s ds size many := by
        simp only [rowOk]
        rw [lk]
      rw [er] at k
      walk_at "gs"
      refine i_star (.inl hs1) (by omega) fun L fL => ?_
      have kL : Kp [] H1 (upd H1 L (.lst xs)) := Kp.new fL
      have hL : (upd H1 L (.lst xs)) L = some (.lst xs) := upd_same
      obtain ⟨H2, e2⟩ : ∃ H2, H2 = upd H1 L (.lst xs) := ⟨_, rfl⟩
      show gCons _ _ _ _ (upd H1 L (.lst xs)) _
      rw [← e2] at kL hL ⊢
      have k02 := Kp.trans kE kL
      have ha2 := hb1.kp kL _ _
      walk_at "gs"
      refine ⟨z, s, rfl, rfl, hzs, ?_⟩
      walk_at "gs"
      refine i_lenS (by rw [sl, sizeLine_eq]; omega) ?_
      walk_at "gs"
      refine i_decN (fun cl => ?_) (fun cl => ?_)
      · have e : rowTail z s ds size many = false := by
          have : decide (ds.length = (sgn s).length) = false := decide_eq_false fun q => cl (by rw [lxs, q, sl])
          unfold rowTail
          rw [this]
          rfl
        walk_at "gs"
        rw [← e]
        exact k H2 k02
      have el : ds.length = (sgn s).length := by rw [sl, lxs] at cl; exact_mod_cast cl
      have et : rowTail z s ds size many = (fitAll (sgn s) ds size many && (decide (z ≠ "fill") || leFill ds)) := by
        unfold rowTail
        rw [decide_eq_true el, Bool.true_and]
      rw [et] at k
      walk_at "gs"
      refine ⟨z, s, rfl, rfl, hzs, ?_⟩
      walk_at "gs"
      refine i_eltzX (k1 := .txt) (k2 := .lst) (xs := signs s) (ys := xs) ⟨s, rfl, rfl⟩ ⟨L, rfl, SqL.of hL⟩ (fun D i H' => Kp [] H2 H' ∧ H' D = some (.lst ((((sgn s).zip ds).take i).map fun q => V.bl (fitS q.1 q.2 size many)))) ?_ ?_ ?_ ?_
      · intro D fD
        exact ⟨Kp.new fD, upd_same⟩
      · rintro D i H' fD ⟨kk, _⟩
        exact ⟨⟨s, rfl, rfl⟩, ⟨L, rfl, SqL.of (kk.at_ _ _ hL not_nil)⟩⟩
      · rintro D i u v tp H3 fD hu hv ⟨k3, hD3⟩ ftp
        obtain ⟨t, ht, rfl⟩ := signs_at hu
        obtain ⟨dv, hdv, hx⟩ := dxa_get (ha2.kp k3 _ _) hv
        have ktp : Kp [] H3 (upd H3 tp (.tup [.str t, v])) := Kp.new ftp
        have htp : (upd H3 tp (.tup [.str t, v])) tp = some (.tup [.str t, v]) := upd_same
        obtain ⟨H4, e4⟩ : ∃ H4, H4 = upd H3 tp (.tup [.str t, v]) := ⟨_, rfl⟩
        show gTup K 2 _ _ _ (upd H3 tp (.tup [.str t, v])) _
        rw [← e4] at ktp htp ⊢
        walk_at "gs"
        refine ⟨t, v, dv, size, many, rfl, s5 t (List.mem_of_getElem? ht), Any.dp ((hx.kp ktp _ _).dp _ _), fun H5 k5 => ?_⟩
        walk_at "gs"
        have hi : i < ((sgn s).zip ds).length := by
          have := (List.getElem?_eq_some_iff.mp ht).1
          have := (List.getElem?_eq_some_iff.mp hdv).1
          rw [List.length_zip]
          omega
        have hz3 : ((sgn s).zip ds).length ≤ 3 := by
          rw [List.length_zip]
          omega
        refine ⟨_, (Kp.trans ktp k5).at_ _ _ hD3 not_nil, small_sz (by rw [List.length_map, List.length_take]; omega), Kp.upd (Kp.trans k3 (Kp.trans ktp k5)) fD, ?_⟩
        have hz : ((sgn s).zip ds)[i]? = some (t, dv) := List.getElem?_zip_eq_some.mpr ⟨ht, hdv⟩
        rw [List.take_add_one, hz, List.map_append]
        exact upd_same
      rintro D H3 fD ⟨k3, hD3⟩
      have hbs : H3 D = some (.lst ((((sgn s).zip ds).map fun q => fitS q.1 q.2 size many).map V.bl)) := by
        rw [hD3, signs_len, List.take_of_length_le (by rw [List.length_zip]; omega), List.map_map]
        rfl
      walk_at "gs"
      refine i_all (SqL.of hbs) ?_
      have ef : ((((sgn s).zip ds).map fun q => fitS q.1 q.2 size many).all id) = fitAll (sgn s) ds size many := by
        unfold fitAll
        rw [List.all_map]
        rfl
      rw [ef]
      have k03 := Kp.trans k02 k3
      walk_at "gs"
      refine i_bool2 (fun cf => ?_) (fun cf => ?_)
      · have cf : fitAll (sgn s) ds size many = false := by cases h : fitAll (sgn s) ds size many <;> simp [h] at cf ⊢
        rw [cf, Bool.false_and] at k
        walk_at "gs"
        exact k H3 k03
      have cf : fitAll (sgn s) ds size many = true := by cases h : fitAll (sgn s) ds size many <;> simp [h] at cf ⊢
      rw [cf, Bool.true_and] at k
      walk_at "gs"
      refine i_decN (fun cz2 => ?_) (fun cz2 => ?_)
      · rw [decide_eq_true cz2, Bool.true_or] at k
        exact k H3 k03
      rw [decide_eq_false (fun n => n cz2), Bool.false_or] at k
      subst cz2
      have es : s = Str.ofString "bec" := by
        have := (kv_look (z := Str.ofString "fill") (s := Str.ofString "bec") (by decide +kernel)).1
        rw [lk] at this
        exact Option.some.inj this
      subst es
      obtain ⟨ia, ib, ic, rfl⟩ := leFill_of cf (by rw [el]; decide +kernel)
      obtain ⟨y0, y1, y2, rfl, g0, g1, g2⟩ : ∃ y0 y1 y2, xs = [y0, y1, y2] ∧ y0 = .int ia ∧ y1 = .int ib ∧ y2 = .int ic := by
        cases hb1 with
        | cons h1 hb =>
          cases hb with
          | cons h2 hb =>
            cases hb with
            | cons h3 hb =>
              cases hb
              cases h1
              cases h2
              cases h3
              exact ⟨_, _, _, rfl, rfl, rfl, rfl⟩
      subst g0 g1 g2
      have hL3 := k3.at_ _ _ hL not_nil
      walk_at "gs"
      exact k H3 k03

theorem sg_cn : sgn "cn" = ([Str.ofString "c", Str.ofString "n"] : List Str) := by decide +kernel
theorem sg_cc : sgn "cc" = ([Str.ofString "c", Str.ofString "c"] : List Str) := by decide +kernel
theorem sg_bec : sgn "bec" = ([Str.ofString "b", Str.ofString "e", Str.ofString "c"] : List Str) := by decide +kernel
theorem sg_ccr : sgn "ccr" = ([Str.ofString "c", Str.ofString "c", Str.ofString "r"] : List Str) := by decide +kernel
theorem sg_c : sgn "c" = ([Str.ofString "c"] : List Str) := by decide +kernel
theorem sg_r : sgn "r" = ([Str.ofString "r"] : List Str) := by decide +kernel
theorem sg_0 : sgn "" = ([] : List Str) := by decide +kernel

/-! ### repr of data, or of an empty dict -/
section
open PyProof.Rows
def rReprU (K : PySem.W.Frag) : List V → Hp → VK → Prop := fun xs H Q => rRepr K xs H Q ∨ ∃ a, xs = [.ref a] ∧ H a = some (.dK []) ∧ Q (.str (PyData.dict []).shown) H
theorem k_reprU {X : Cx} {K : PySem.W.Frag} (h : X.K = K) (hg : X.A.guards = some []) (hu : X.A.units + 64 < cLine) : CallR X (.builtin "repr") (rReprU K) := by
  intro pins s σ H xs us Q I r q
  rcases q with q | ⟨a, rfl, ha, q⟩
  · exact k_repr h hg hu pins s σ H xs us Q I r q
  · obtain ⟨u, rfl, rx⟩ := vals1 r
    cases rx
    obtain ⟨_, lo, vs, rel, o, es, ep, ho, hc, hd, _, hp, _⟩ := dk_of I.hok ha
    cases rel
    have e0 : es.toList = [] := by
      cases hq : es.toList with
      | nil => rfl
      | cons x y =>
        rw [hq] at hp
        cases hp
    have rd : Reads s.heap (.ref a) (.dict []) (a :: [] ++ []) := by
      refine .dict ho hc.1 hd ?_ ?_
      · rw [e0]
        exact .nil
      · rw [e0]
        exact .nil
    refine repr_of_reads' rd rfl (fun _ hm => ?_) hg ?_ (fun _ _ e => e) (fun h' u tk hk => ?_) (by decide +kernel)
    · simp only [List.append_nil, List.mem_singleton] at hm
      rw [← hm] at lo
      simp at lo
    · have : (PyData.dict []).depth ≤ 1 := by simp only [PyData.depth, PyData.depthKv]; omega
      omega
    · exact ⟨.str _, H, I.kept hk, ⟨_, rfl⟩, q⟩
end

/-! ### repr of data that may hold empty dicts anywhere -/
section
open PySem.Calls PyProof.Rows
mutual
inductive De (K : PySem.W.Frag) (H : Hp) : V → PyData → Prop
  | non : De K H .non .none
  | bl (b : Bool) : De K H (.bl b) (.bool b)
  | int (i : Int) : De K H (.int i) (.int i)
  | str (x : Str) : De K H (.str x) (.str x)
  | lst {a : Addr} {xs : List V} {ds : List PyData} : SqL K H a xs → DeAll K H xs ds → De K H (.ref a) (.list ds)
  | tup {a : Addr} {xs : List V} {ds : List PyData} : SqT K H a xs → DeAll K H xs ds → De K H (.ref a) (.tuple ds)
  | emp {a : Addr} : H a = some (.dK []) → De K H (.ref a) (.dict [])
inductive DeAll (K : PySem.W.Frag) (H : Hp) : List V → List PyData → Prop
  | nil : DeAll K H [] []
  | cons {v : V} {vs : List V} {d : PyData} {ds : List PyData} : De K H v d → DeAll K H vs ds → DeAll K H (v :: vs) (d :: ds)
end
mutual
theorem Dp.de {K : PySem.W.Frag} {H : Hp} : ∀ (d : PyData) (v : V), Dp K H v d → De K H v d
  | .none, _, h => by cases h; exact .non
  | .bool b, _, h => by cases h; exact .bl b
  | .int i, _, h => by cases h; exact .int i
  | .str x, _, h => by cases h; exact .str x
  | .list ds, _, h => by
    cases h with
    | lst hs ha => exact .lst hs (DpAll.de ds _ ha)
  | .tuple ds, _, h => by
    cases h with
    | tup hs ha => exact .tup hs (DpAll.de ds _ ha)
  | .dict _, _, h => by cases h
theorem DpAll.de {K : PySem.W.Frag} {H : Hp} : ∀ (ds : List PyData) (vs : List V), DpAll K H vs ds → DeAll K H vs ds
  | [], _, h => by cases h; exact .nil
  | d :: ds, _, h => by
    cases h with
    | cons h1 h2 => exact .cons (Dp.de d _ h1) (DpAll.de ds _ h2)
end
mutual
def cwE : PyData → Nat
  | .none => 4
  | .bool _ => 5
  | .int _ => 1930
  | .str x => 10 * x.length + 4
  | .list xs => cwsE xs + 2
  | .tuple xs => cwsE xs + 2
  | .dict _ => 2
def cwsE : List PyData → Nat
  | [] => 0
  | x :: xs => cwE x + 2 + cwsE xs
end
mutual
/-- as shw, but empty dicts may stand in it -/
def shwE : PyData → Bool
  | .none => true
  | .bool _ => true
  | .int i => decide (i.natAbs.log2 < 1920)
  | .str x => x.cps.toList.all fun c => decide (c < 16 ^ 8)
  | .list xs => shwsE xs
  | .tuple xs => shwsE xs
  | .dict [] => true
  | .dict _ => false
def shwsE : List PyData → Bool
  | [] => true
  | x :: xs => shwE x && shwsE xs
end
mutual
theorem shown_lenE : ∀ d : PyData, shwE d = true → d.shown.length ≤ cwE d
  | .none, _ => by simp only [PyData.shown, cwE]; decide +kernel
  | .bool b, _ => by cases b <;> (simp only [PyData.shown, cwE]; decide +kernel)
  | .int i, h => by
    simp only [shwE, decide_eq_true_eq] at h
    simp only [PyData.shown, cwE]
    have q := int_text_length_le (a := i) (k := 1920) (by decide) h
    rw [PySem.ofString_length]
    omega
  | .str x, h => by
    simp only [shwE, List.all_eq_true, decide_eq_true_eq] at h
    simp only [PyData.shown, cwE]
    have q := StrLaws.reprText_len x h
    omega
  | .list xs, h => by
    simp only [shwE] at h
    simp only [PyData.shown, cwE]
    exact Nat.le_trans (list_text _) (Nat.add_le_add_right (shown_lensE xs h) 2)
  | .tuple xs, h => by
    simp only [shwE] at h
    simp only [PyData.shown, cwE]
    exact Nat.le_trans (fmt_text _) (Nat.add_le_add_right (shown_lensE xs h) 2)
  | .dict [], _ => by simp only [PyData.shown, cwE]; decide +kernel
  | .dict (_ :: _), h => by simp only [shwE] at h; cases h
theorem shown_lensE : ∀ ds : List PyData, shwsE ds = true → piled (PyData.shownAll ds) ≤ cwsE ds
  | [], _ => Nat.zero_le _
  | d :: ds, h => by
    simp only [shwsE, Bool.and_eq_true] at h
    simp only [PyData.shownAll, cwsE, piled_cons]
    have q1 := shown_lenE d h.1
    have q2 := shown_lensE ds h.2
    omega
end
mutual
theorem De.rk {X : Cx} {pins : List (Addr × Obj)} {σ : L2.St} {H : Hp} {s : Shared} (I : Inv X pins σ H s) : ∀ (d : PyData) (v : V) (u : Value), De X.K H v d → RelV v u → shwE d = true → d.shown.length ≤ sizeLine →
    ∃ as bs, Reads s.heap u d as ∧ ReadAtMost s.heap d.depth bs ∧ ReprK X.prog X.w bs s.heap d.depth u d.shown
  | .none, _, _, h, r, _, _ => by
    cases h
    cases r
    exact ⟨_, [], Reads.none, (fun _ h => nomatch h), by simp only [PyData.shown]; exact .of_is ReprIs.none _ _ _⟩
  | .bool b, _, _, h, r, _, _ => by
    cases h
    cases r
    exact ⟨_, [], Reads.bool b, (fun _ h => nomatch h), by simp only [PyData.shown]; exact .of_is (ReprIs.bool b) _ _ _⟩
  | .int i, _, _, h, r, hs, _ => by
    cases h
    obtain ⟨t, rfl⟩ := r
    exact ⟨_, [], Reads.int i t, (fun _ h => nomatch h), by simp only [PyData.shown]; exact .of_is (ReprIs.int t (by simpa only [shwE, decide_eq_true_eq] using hs)) _ _ _⟩
  | .str x, _, _, h, r, _, hz => by
    cases h
    obtain ⟨t, rfl⟩ := r
    exact ⟨_, [], Reads.str x t, (fun _ h => nomatch h), by simp only [PyData.shown]; exact .of_is (ReprIs.str x t (by simpa only [PyData.shown] using hz)) _ _ _⟩
  | .list ds, _, _, h, r, hs, hz => by
    cases h with
    | lst hq ha =>
      cases r
      rename_i a xs
      obtain ⟨its, rv, ⟨o, n, ho, hc, _, hd⟩, _⟩ := I.list hq
      have hz' : (listText (PyData.shownAll ds)).length ≤ sizeLine := by simpa only [PyData.shown] using hz
      obtain ⟨as, bs, hr, hb, hk⟩ := De.rkAll I ds _ its ha rv (by simpa only [shwE] using hs) (fun t ht => Nat.le_trans (listText_mem_le ht) hz')
      have rr : Reads s.heap (.ref a) (.list ds) _ := Reads.list ho hc hd hr
      have hna : a ∉ bs := not_mem_of_deeper rr (by simp only [PyData.depth]; omega) hb
      refine ⟨_, a :: bs, rr, ReadAtMost.cons rr (by simp only [PyData.depth]; omega) hb, ?_⟩
      simp only [PyData.depth, PyData.shown]
      cases its with
      | nil =>
        cases hr
        simp only [PyData.shownAll, listText_nil]
        exact ReprK.listEmpty ho hc hd
      | cons x l => exact ReprK.list ho hc hd hna (by simpa using hk.length_eq) (fun i y e => hk.item i y (by simpa using e))
  | .tuple ds, _, _, h, r, hs, hz => by
    cases h with
    | tup hq ha =>
      cases r
      rename_i a xs
      obtain ⟨its, rv, ⟨o, ho, hc, n, hd⟩, _⟩ := I.tuple hq
      have hz' : (tupleText (PyData.shownAll ds)).length ≤ sizeLine := by simpa only [PyData.shown] using hz
      obtain ⟨as, bs, hr, hb, hk⟩ := De.rkAll I ds _ its ha rv (by simpa only [shwE] using hs) (fun t ht => Nat.le_trans (tupleText_mem_le ht) hz')
      have rr : Reads s.heap (.ref a) (.tuple ds) _ := Reads.tuple ho hc hd hr
      have hna : a ∉ bs := not_mem_of_deeper rr (by simp only [PyData.depth]; omega) hb
      refine ⟨_, a :: bs, rr, ReadAtMost.cons rr (by simp only [PyData.depth]; omega) hb, ?_⟩
      simp only [PyData.depth, PyData.shown]
      exact ReprK.tuple ho hc hd hna hk
  | .dict [], _, _, h, r, _, _ => by
    cases h with
    | emp ha =>
      cases r
      rename_i a
      obtain ⟨_, lo, vs, rel, o, es, ep, ho, hc, hd, _, hp, _⟩ := dk_of I.hok ha
      cases rel
      have e0 : es.toList = [] := by
        cases hq : es.toList with
        | nil => rfl
        | cons x y =>
          rw [hq] at hp
          cases hp
      have rr : Reads s.heap (.ref a) (.dict []) (a :: [] ++ []) := by
        refine .dict ho hc.1 hd ?_ ?_
        · rw [e0]
          exact .nil
        · rw [e0]
          exact .nil
      refine ⟨_, [a], rr, ReadAtMost.cons rr (n := 0) (Nat.zero_le _) (fun _ h => nomatch h), ?_⟩
      have lo : (a == sysModules) = false := by simpa using lo
      have k := ReprK.dict (prog := X.prog) (w := X.w) (as := []) (d := 0) (ps := []) ho hc.1 hd lo (fun h => nomatch h) (by rw [e0]; exact .nil)
      simp only [PyData.depth, PyData.depthKv, PyData.shown, PyData.shownKv]
      exact k
  | .dict (_ :: _), _, _, h, _, _, _ => by cases h
theorem De.rkAll {X : Cx} {pins : List (Addr × Obj)} {σ : L2.St} {H : Hp} {s : Shared} (I : Inv X pins σ H s) : ∀ (ds : List PyData) (vs : List V) (us : List Value), DeAll X.K H vs ds → Vals vs us → shwsE ds = true → (∀ t ∈ PyData.shownAll ds, t.length ≤ sizeLine) →
    ∃ as bs, ReadsAll s.heap us ds as ∧ ReadAtMost s.heap (PyData.depthAll ds) bs ∧ ReprAllK X.prog X.w bs s.heap (PyData.depthAll ds) us (PyData.shownAll ds)
  | [], _, _, h, r, _, _ => by
    cases h
    cases r
    exact ⟨_, [], ReadsAll.nil, (fun _ h => nomatch h), by simp only [PyData.shownAll]; exact .nil⟩
  | d :: ds, _, _, h, r, hs, hz => by
    cases h with
    | cons h1 h2 =>
      cases r with
      | cons r1 r2 =>
        simp only [shwsE, Bool.and_eq_true] at hs
        obtain ⟨as1, b1, q1, hb1, k1⟩ := De.rk I d _ _ h1 r1 hs.1 (hz _ (by simp only [PyData.shownAll]; exact List.mem_cons_self ..))
        obtain ⟨as2, b2, q2, hb2, k2⟩ := De.rkAll I ds _ _ h2 r2 hs.2 (fun t ht => hz t (by simp only [PyData.shownAll]; exact List.mem_cons_of_mem _ ht))
        refine ⟨_, b1 ++ b2, ReadsAll.cons q1 q2, ?_, ?_⟩
        · simp only [PyData.depthAll]
          exact (hb1.mono (Nat.le_max_left _ _)).append (hb2.mono (Nat.le_max_right _ _))
        · simp only [PyData.depthAll, PyData.shownAll]
          exact .cons ((k1.more fun b hb => List.mem_append_left _ hb).level_le (Nat.le_max_left _ _)) (k2.more_le (fun b hb => List.mem_append_right _ hb) (Nat.le_max_right _ _))
end
def rReprE (K : PySem.W.Frag) : List V → Hp → VK → Prop := fun xs H Q => ∃ x d, xs = [x] ∧ De K H x d ∧ shwE d = true ∧ d.depth ≤ 60 ∧ cwE d ≤ sizeLine ∧ Q (.str d.shown) H
theorem i_reprE {K : PySem.W.Frag} {H : Hp} {Q : VK} {x : V} {d : PyData} (hd : De K H x d) (hs : shwE d = true) (hdp : d.depth ≤ 60) (hz : cwE d ≤ sizeLine) (h : Q (.str d.shown) H) : rReprE K [x] H Q := ⟨x, d, rfl, hd, hs, hdp, hz, h⟩
theorem k_reprE {X : Cx} {K : PySem.W.Frag} (h : X.K = K) (hg : X.A.guards = some []) (hu : X.A.units + 64 < cLine) : CallR X (.builtin "repr") (rReprE K) := by
  subst h
  intro pins s σ H xs us Q I r q
  obtain ⟨x, d, rfl, hd, hs, hdp, hz, q⟩ := q
  obtain ⟨u, rfl, rx⟩ := vals1 r
  have hz2 := Nat.le_trans (shown_lenE d hs) hz
  have leaf : Dp X.K H x d → shw d = true → cw d ≤ sizeLine → wpAny (model X.prog X.w) X.A (call (.builtin "repr") [u]) (EP X pins σ Q) X.xe s := fun a b c => k_repr rfl hg hu pins s σ H [x] [u] Q I r ⟨x, d, rfl, a, b, hdp, c, q⟩
  cases hd with
  | non => exact leaf .non rfl hz
  | bl b => exact leaf (.bl b) rfl hz
  | int i => exact leaf (.int i) hs hz
  | str y => exact leaf (.str y) hs hz
  | lst hq ha =>
    cases rx
    rename_i a xs ds
    obtain ⟨its, rv, ⟨o, n, ho, hc, _, hd⟩, _⟩ := I.list hq
    have hz' : (listText (PyData.shownAll ds)).length ≤ sizeLine := by simpa only [PyData.shown] using hz2
    obtain ⟨as, bs, hr, hb, hk⟩ := De.rkAll I ds _ its ha rv (by simpa only [shwE] using hs) (fun t ht => Nat.le_trans (listText_mem_le ht) hz')
    have rr : Reads s.heap (.ref a) (.list ds) _ := Reads.list ho hc hd hr
    have hna : a ∉ bs := not_mem_of_deeper rr (by simp only [PyData.depth]; omega) hb
    simp only [PyData.depth] at hdp
    simp only [PyData.shown] at q
    refine call_repr_slot (T := "list") (idr := "list.__repr__") (by omega) ⟨_, ho, hc⟩ PySem.F.slot_list_repr.toG ?_
    cases its with
    | nil =>
      cases hr
      simp only [PyData.shownAll, listText_nil] at q
      exact call_list_repr_empty ⟨o, ho, hc⟩ ho hd ⟨_, _, rfl, .str _, H, I.tok _, ⟨_, rfl⟩, q⟩
    | cons x l =>
      exact call_list_reprK ho hc hd hna (by simpa using hk.length_eq) (fun i y e => hk.item i y (by simpa using e)) hg (fun b _ => Clear.nil b) (by show X.A.units + 1 + _ < cLine; omega) (fun _ _ e => e) (fun h' u tk hk => ⟨_, _, rfl, .str _, H, I.kept hk, ⟨_, rfl⟩, q⟩) hz'
  | tup hq ha =>
    cases rx
    rename_i a xs ds
    obtain ⟨its, rv, ⟨o, ho, hc, n, hd⟩, _⟩ := I.tuple hq
    have hz' : (tupleText (PyData.shownAll ds)).length ≤ sizeLine := by simpa only [PyData.shown] using hz2
    obtain ⟨as, bs, hr, hb, hk⟩ := De.rkAll I ds _ its ha rv (by simpa only [shwE] using hs) (fun t ht => Nat.le_trans (tupleText_mem_le ht) hz')
    have rr : Reads s.heap (.ref a) (.tuple ds) _ := Reads.tuple ho hc hd hr
    have hna : a ∉ bs := not_mem_of_deeper rr (by simp only [PyData.depth]; omega) hb
    simp only [PyData.depth] at hdp
    simp only [PyData.shown] at q
    refine call_repr_slot (T := "tuple") (idr := "tuple.__repr__") (by omega) ⟨_, ho, hc⟩ PySem.F.slot_tuple_repr ?_
    exact call_tuple_reprK ho hc hd hna hk hg (fun b _ => Clear.nil b) (by show X.A.units + 1 + _ < cLine; omega) (fun _ _ e => e) (fun h' u tk hk => ⟨_, _, rfl, .str _, H, I.kept hk, ⟨_, rfl⟩, q⟩) hz'
  | emp ha =>
    exact k_reprU rfl hg hu pins s σ H _ [u] Q I r (.inr ⟨_, rfl, ha, q⟩)
end

/-! ### d.update(e), two dicts -/
section
open PyProof PyProof.Rows PySem.Calls PySem.Spec
def rUpdD : V → List V → Hp → VK → Prop := fun x vs H Q => ∃ (a b : Addr) (kvs more : List (Key × V)), x = .ref a ∧ vs = [.ref b] ∧ a ≠ b ∧ H a = some (.dK kvs) ∧ H b = some (.dK more) ∧ kvs.length + more.length ≤ 1000000 ∧ Q .non (upd H a (.dK (mergeK kvs more)))
theorem mtd_update {X : Cx} : MtR X "dict.update" rUpdD := by
  intro pins s σ H x vs v us Q I rx rv h
  obtain ⟨a, b, kvs, more, ex, ev, ne, ha, hb, hl, q⟩ := h
  subst ex ev
  obtain rfl : v = Value.ref a := rx
  obtain ⟨u, eu, ru⟩ := vals1 rv
  subst eu
  obtain rfl : u = Value.ref b := ru
  obtain ⟨wa, la, vs1, rel1, dof1⟩ := dk_of I.hok ha
  obtain ⟨wb, lb, vs2, rel2, dof2⟩ := dk_of I.hok hb
  have l1 := rel1.length
  have l2 := rel2.length
  refine call_meetsIn PySem.F.slot_dict_update dof1.typeIs PySem.F.entry_dict_update (PySem.F.args_dict_update_2 _ _) (meets_dict_update (mixKind X.prog X.w) a b ne lb) ⟨vs1, vs2, dof1, dof2, by rw [← l1, ← l2]; exact Nat.le_trans hl (by rw [sizeLine_eq]; decide), fun g d1 d2 sb => ?_⟩
  have I2 := d_write (t' := s.toks) I (by rw [ha]; trivial) sb (by obtain ⟨ep, ob, es, got, _⟩ := d1.dictAt; exact ⟨ob, got⟩) (dk_new (by refine Nat.le_trans (length_mergeK more kvs) (Nat.le_trans hl (by rw [sizeLine_eq]; decide))) la (rel2.merge rel1) d1)
  exact ⟨.non, _, I2, rfl, q⟩
def rClrD : V → List V → Hp → VK → Prop := fun x vs H Q => ∃ (a : Addr) (kvs : List (Key × V)), x = .ref a ∧ vs = [] ∧ H a = some (.dK kvs) ∧ Q .non (upd H a (.dK []))
theorem mtd_clr {X : Cx} : MtR X "dict.clear" rClrD := by
  intro pins s σ H x vs v us Q I rx rv h
  obtain ⟨a, kvs, ex, ev, ha, q⟩ := h
  subst ex ev
  obtain rfl : v = Value.ref a := rx
  cases rv
  exact d_clear I ha fun t J => ⟨.non, _, J, rfl, q⟩
end

/-! ### len(o) by the text's own method -/
section
variable {X : Cx} {K : PySem.W.Frag} {k : Nat} {C f : Addr} {fd : FuncData} {ps : List Str} {sp : Sp} {E : XK}
theorem run_in {A : Around} {pins : List (Addr × Obj)} {σ : L2.St} {H : Hp} {s : Shared} {Q : VK} {vs : List V} {us : List Value}
    (F : Fg X k f fd ps sp) (z : RoomG k A) (hA : A.frames = X.A.frames) (hb : BindsD X.K fd ps []) (hx : Ps X E)
    (I : Inv X pins σ H s) (r : Vals vs us) (h : sp vs H Q E) :
    wpAny (model X.prog X.w) A (call (.ref f) us) (EP X pins σ Q) X.xe s := by
  obtain ⟨ds, hd, hb⟩ := hb
  cases hd
  have e := I.env0
  have e0 : Env0 X.prog X.w X.K X.mg X.base A X.stack s H :=
    ⟨by rw [hA]; exact e.frames, e.mod, e.bs, e.bsz, e.funs, e.frf, e.hok, e.bare⟩
  have hl : (us ++ []).length = ps.length := by
    rw [List.append_nil, ← r.length]
    exact F.len _ _ _ _ h
  have b := hb s us I.kIn hl
  rw [List.append_nil] at b
  refine wpAny_call (codeAny_mono (F.run A X.stack s H ⟨us, []⟩ us vs Q E z e0 b r h) ?_)
  intro q s' hq
  match q, hq with
  | .error e, hq => exact hx pins σ H s e s' I hq
  | .ok (.ret u), hq => exact I.after hq
  | .ok .next, hq => exact False.elim hq
  | .ok .brk, hq => exact False.elim hq
  | .ok .cont, hq => exact False.elim hq
theorem RoomG.in1 {k : Nat} {A : Around} (z : RoomG (k + 1) A) : RoomG k A.in1 := ⟨z.r.in1, z.g⟩
end

section
variable {X : Cx} {K : PySem.W.Frag} {k : Nat} {C f : Addr} {fd : FuncData} {ps : List Str} {sp : Sp} {E : XK}
def rLenM (C : Addr) (sp : Sp) (E : XK) : List V → Hp → VK → Prop := fun xs H Q => ∃ (a dx : Addr) (fs : List (Str × V)), xs = [.ref a] ∧ H a = some (.ins C dx fs) ∧
  sp [.ref a] H (fun v H' => ∃ n : Int, v = .int n ∧ (0 ≤ n ∧ n < 9223372036854775808) ∧ Q (.int n) H') E
theorem k_lenM (h : X.K = K) (hm : Meth X.K C "__len__" f) (F : Fg X k f fd ps sp) (z : RoomG (k + 1) X.A) (hb : BindsD X.K fd ps []) (hx : Ps X E) :
    CallR X (.builtin "len") (rLenM C sp E) := by
  intro pins s σ H xs us Q I r h
  obtain ⟨a, dx, fs, rfl, ha, hsp⟩ := h
  obtain ⟨u, rfl, rx⟩ := vals1 r
  cases rx
  obtain ⟨mA, J, _⟩ := ins_get I.hok ha
  obtain ⟨od, J, _⟩ := J.look
  obtain ⟨m, hF⟩ := I.fr
  refine PySem.W.len_K hF I.ok.mod.kin J hm.at_ hm.fn ?_
  have r0 : Vals [V.ref a] [Value.ref a] := .cons rfl .nil
  refine wpAny_mono (run_in F (RoomG.in1 z) rfl hb hx I r0 hsp) ?_ (fun e s' q => q)
  rintro u s' ⟨v, H', I', rv, n, rfl, hn, q⟩
  obtain ⟨t, rfl⟩ := rv
  exact ⟨hn, ⟨.int n, H', I'.tok _, ⟨_, rfl⟩, q⟩⟩
theorem i_lenM {H : Hp} {Q : VK} {a dx : Addr} {fs : List (Str × V)} (ha : H a = some (.ins C dx fs))
    (h : sp [.ref a] H (fun v H' => ∃ n : Int, v = .int n ∧ (0 ≤ n ∧ n < 9223372036854775808) ∧ Q (.int n) H') E) : rLenM C sp E [.ref a] H Q :=
  ⟨a, dx, fs, rfl, ha, h⟩
end

/-! ### the class Program -/
theorem sc_NoProgram_init : FnScope ["self", "row"] ["self", "row"] (defScope s_NoProgram_init) :=
  ⟨rfl, rfl, rfl, by decide +kernel, rfl, by decide +kernel, by decide +kernel⟩
theorem ok_NoProgram_init {P : Program} {w : World} {K : PySem.W.Frag} {mg : Str → Option Value} {base : Heap} (T : Txt w K mg) :
    FnG P w K mg base 1 T.a_NoProgram_init T.d_NoProgram_init ["self", "row"] (sp_xinit T.x_NoProgram "row") := by
  refine okD T.F_NoProgram_init sc_NoProgram_init (fun vs H Q E h => ?_) (fun cdv A outer s H vs Q E hr h => ?_)
  · first
      | (obtain ⟨_, rfl, _⟩ := h; rfl)
      | (obtain ⟨_, _, rfl, _⟩ := h; rfl)
      | (obtain ⟨_, _, _, rfl, _⟩ := h; rfl)
      | (obtain ⟨_, _, _, _, rfl, _⟩ := h; rfl)
      | (obtain ⟨_, _, _, _, _, rfl, _⟩ := h; rfl)
      | (obtain ⟨_, _, _, _, _, _, rfl, _⟩ := h; rfl)
      | (obtain ⟨_, _, _, _, _, _, _, rfl, _⟩ := h; rfl)
      | (obtain ⟨_, _, _, _, _, _, _, _, rfl, _⟩ := h; rfl)
      | (obtain ⟨_, _, _, _, _, _, _, _, _, rfl, _⟩ := h; rfl)
      | (obtain ⟨_, _, _, _, _, _, _, _, _, _, rfl, _⟩ := h; rfl)
      | (obtain ⟨_, _, _, _, _, _, _, _, _, _, _, rfl, _⟩ := h; rfl)
      | (obtain ⟨_, _, _, _, _, _, _, _, _, _, _, _, rfl, _⟩ := h; rfl)
      | (obtain ⟨_, _, _, _, _, _, _, _, _, _, _, _, _, rfl, _⟩ := h; rfl)
      | (obtain ⟨_, _, _, _, _, _, _, _, _, _, _, _, _, _, rfl, _⟩ := h; rfl)
      | (obtain ⟨_, _, _, _, _, _, _, _, _, _, _, _, _, _, _, rfl, _⟩ := h; rfl)
      | (obtain ⟨_, _, _, _, _, _, _, _, _, _, _, _, _, _, _, _, rfl, _⟩ := h; rfl)
      | (obtain ⟨_, _, _, _, _, _, _, _, _, _, _, _, _, _, _, _, _, rfl, _⟩ := h; rfl)
      | (obtain ⟨_, _, _, _, _, _, _, _, _, _, _, _, _, _, _, _, _, _, rfl, _⟩ := h; rfl)
      | (obtain ⟨_, _, _, _, _, _, _, _, _, _, _, _, _, _, _, _, _, _, _, rfl, _⟩ := h; rfl)
  · obtain ⟨a, y, rfl, ha, k⟩ := h
    have cl_Memory := T.cl_Memory
    have na_Memory_pairs := T.na_Memory_pairs
    have na_Memory_wide := T.na_Memory_wide
    have cl_Lone := T.cl_Lone
    have na_Lone_all_rows := T.na_Lone_all_rows
    have na_Lone_cells := T.na_Lone_cells
    have na_Lone_next_row := T.na_Lone_next_row
    have na_Lone_numbers := T.na_Lone_numbers
    have na_Lone_rested := T.na_Lone_rested
    have cl_Program := T.cl_Program
    have na_Program_own_rows := T.na_Program_own_rows
    have na_Program_own_size := T.na_Program_own_size
    refine ⟨_, (pss_cons (ps_expr (x_baseC under_ValueError (by rfl) T.mx_ForkError T.xbg_NoProgram T.xbr_NoProgram T.xv_NoProgram (pa_cons (pv 0) (pa_cons pe_str pa_nil))))
      (pss_one (x_put (B := "ValueError") (newId := "ValueError.__new__") (initId := "ValueError.__init__") (tail := [.type "ValueError", .type "Exception", .type "BaseException", .type "object"]) (pv 0) (pv 1)))), ?_⟩
    dsimp only [cxOf, st_1, st_2, st_3, st_4, st_5, st_6, List.length_cons, List.length_nil, List.replicate_succ, List.replicate_zero, Nat.reduceAdd, Nat.reduceSub]
    walk_at "gs"
    refine ⟨a, T.x_NoProgram, [.str "no program"], rfl, by decide, T.xc_NoProgram, ha, ?_⟩
    walk_at "gs"
    refine ⟨a, T.x_NoProgram, rfl, T.xc_NoProgram, T.xn_NoProgram, ha, fun dx n ne => ?_⟩
    walk_at "gs"
    exact k dx n ne
def pfs (n : Int) (R : Addr) : List (Str × V) := [("own_size", .int n), ("own_rows", .ref R)]
/-- things in a list, whose data are told -/
def RowsV (K : PySem.W.Frag) (H : Hp) (ws : List Addr) (xs : List V) (ds : List PyData) : Prop :=
  xs.length = ds.length ∧ ∀ (i : Nat) (x : V), xs[i]? = some x → ∃ d, ds[i]? = some d ∧ Tg K H ws x d ∧ ∀ es, d = .tuple es → SeqAt.shaped d = true ∧ es.length ≤ 1000
theorem RowsV.kp {K : PySem.W.Frag} {H H' : Hp} {ws : List Addr} {xs : List V} {ds : List PyData} (h : RowsV K H ws xs ds) (k : Kp ws H H') : RowsV K H' ws xs ds :=
  ⟨h.1, fun i x hx => let ⟨d, a, b, c⟩ := h.2 i x hx; ⟨d, a, b.kp k, c⟩⟩
def badAt (ds : List PyData) (n : Int) : Option Nat := ds.findIdx? fun d => !rowOk d n ds.length
theorem badAt_step {p : PyData → Bool} : ∀ {ds : List PyData} {i : Nat}, (∀ j, j < i → ∀ d, ds[j]? = some d → p d = false) → ∀ {d}, ds[i]? = some d → p d = true → ds.findIdx? p = some i
  | [], i, _, d, e, _ => by simp at e
  | a :: ds, 0, _, d, e, h => by
    cases e
    rw [List.findIdx?_cons, h]
    rfl
  | a :: ds, i + 1, k, d, e, h => by
    have h0 := k 0 (by omega) a rfl
    rw [List.findIdx?_cons, h0, badAt_step (i := i) (fun j hj d hd => k (j + 1) (by omega) d hd) (d := d) e h]
    rfl
theorem badAt_none {p : PyData → Bool} {ds : List PyData} (h : ∀ j, j < ds.length → ∀ d, ds[j]? = some d → p d = false) : ds.findIdx? p = none := by
  rw [List.findIdx?_eq_none_iff]
  intro x hx
  obtain ⟨i, hi⟩ := List.getElem?_of_mem hx
  exact h i (List.getElem?_eq_some_iff.mp hi).1 x hi
def sp_pinit (K : PySem.W.Frag) (CP XS XP : Addr) : Sp := fun vs H Q E => ∃ (p dx : Addr) (x y : V) (da : PyData), vs = [.ref p, x, y] ∧ H p = some (.ins CP dx []) ∧ Any K H x da ∧
  (whD da 1 1000000000000000000 = false → E (.ref XS) none H) ∧ ∀ n, da = .int n → whD da 1 1000000000000000000 = true →
    ((∃ db, Any K H y db ∧ kLst db = false ∧ ∀ e H', Kp [] H H' → H' e = some (.xd [(("row" : Str), .non)]) → E (.ref XP) (some e) H') ∨
     ∃ (R0 : Addr) (xs : List V) (ds : List PyData), y = .ref R0 ∧ H R0 = some (.lst xs) ∧ RowsV K H [] xs ds ∧ xs.length ≤ 1000 ∧
       (∀ i, badAt ds n = some i → ∀ e H', Kp [] H H' → H' e = some (.xd [(("row" : Str), .int (i : Nat))]) → E (.ref XP) (some e) H') ∧
       (badAt ds n = none → ∀ R H', Fr H R → Kp [p] H H' → H' p = some (.ins CP dx (pfs n R)) → H' R = some (.lst xs) → Q .non H'))
theorem sc_Program_init : FnScope ["self", "size", "rows", "number", "row"] ["self", "size", "rows"] (defScope s_Program_init) :=
  ⟨rfl, rfl, rfl, by decide +kernel, rfl, by decide +kernel, by decide +kernel⟩
theorem ok_Program_init {P : Program} {w : World} {K : PySem.W.Frag} {mg : Str → Option Value} {base : Heap} (T : Txt w K mg) :
    FnG P w K mg base 4 T.a_Program_init T.d_Program_init ["self", "size", "rows"] (sp_pinit K T.c_Program T.x_NoSize T.x_NoProgram) := by
  refine okD T.F_Program_init sc_Program_init (fun vs H Q E h => ?_) (fun cdv A outer s H vs Q E hr h => ?_)
  · first
      | (obtain ⟨_, rfl, _⟩ := h; rfl)
      | (obtain ⟨_, _, rfl, _⟩ := h; rfl)
      | (obtain ⟨_, _, _, rfl, _⟩ := h; rfl)
      | (obtain ⟨_, _, _, _, rfl, _⟩ := h; rfl)
      | (obtain ⟨_, _, _, _, _, rfl, _⟩ := h; rfl)
      | (obtain ⟨_, _, _, _, _, _, rfl, _⟩ := h; rfl)
      | (obtain ⟨_, _, _, _, _, _, _, rfl, _⟩ := h; rfl)
      | (obtain ⟨_, _, _, _, _, _, _, _, rfl, _⟩ := h; rfl)
      | (obtain ⟨_, _, _, _, _, _, _, _, _, rfl, _⟩ := h; rfl)
      | (obtain ⟨_, _, _, _, _, _, _, _, _, _, rfl, _⟩ := h; rfl)
      | (obtain ⟨_, _, _, _, _, _, _, _, _, _, _, rfl, _⟩ := h; rfl)
      | (obtain ⟨_, _, _, _, _, _, _, _, _, _, _, _, rfl, _⟩ := h; rfl)
      | (obtain ⟨_, _, _, _, _, _, _, _, _, _, _, _, _, rfl, _⟩ := h; rfl)
      | (obtain ⟨_, _, _, _, _, _, _, _, _, _, _, _, _, _, rfl, _⟩ := h; rfl)
      | (obtain ⟨_, _, _, _, _, _, _, _, _, _, _, _, _, _, _, rfl, _⟩ := h; rfl)
      | (obtain ⟨_, _, _, _, _, _, _, _, _, _, _, _, _, _, _, _, rfl, _⟩ := h; rfl)
      | (obtain ⟨_, _, _, _, _, _, _, _, _, _, _, _, _, _, _, _, _, rfl, _⟩ := h; rfl)
      | (obtain ⟨_, _, _, _, _, _, _, _, _, _, _, _, _, _, _, _, _, _, rfl, _⟩ := h; rfl)
      | (obtain ⟨_, _, _, _, _, _, _, _, _, _, _, _, _, _, _, _, _, _, _, rfl, _⟩ := h; rfl)
  · obtain ⟨p, dx, x, y, da, rfl, hp, hx, rS, k⟩ := h
    have cl_Memory := T.cl_Memory
    have na_Memory_pairs := T.na_Memory_pairs
    have na_Memory_wide := T.na_Memory_wide
    have cl_Lone := T.cl_Lone
    have na_Lone_all_rows := T.na_Lone_all_rows
    have na_Lone_cells := T.na_Lone_cells
    have na_Lone_next_row := T.na_Lone_next_row
    have na_Lone_numbers := T.na_Lone_numbers
    have na_Lone_rested := T.na_Lone_rested
    have cl_Program := T.cl_Program
    have na_Program_own_rows := T.na_Program_own_rows
    have na_Program_own_size := T.na_Program_own_size
    refine ⟨_, (pss_cons (ps_if (pt_not (pt_val (d1 (ok_is_size T) (hr.mono (by decide)) (by rfl) T.m_is_size T.F_is_size.kp T.b_is_size passL (pa_cons (pv 1) pa_nil)))) (pss_one (ps_raise rfl (takes_of rfl rfl rfl rfl) (pmk_own PySem.F.excBase_ValueError T.en_NoSize T.mx_NoSize T.ek_NoSize (raises_own T.ec_NoSize.hs T.et_NoSize) rfl))) pss_nil)
      (pss_cons (ps_if (pt_not (pt_val (pe_callB (k_isi (K := K) rfl) (by rfl) T.n_isinstance (by decide +kernel) (pa_cons (pv 2) (pa_cons (pe_bltn (v := .ty "list") (by rfl) T.n_list (by decide +kernel) rfl) pa_nil))))) (pss_one (ps_raise rfl (takes_of rfl rfl rfl rfl) (x_new T.xc_NoProgram T.xi_NoProgram T.xt_NoProgram (ok_NoProgram_init T) (hr.mono (by decide)) T.b_NoProgram_init (by rfl) T.mx_NoProgram (pa_cons pe_non pa_nil)))) pss_nil)
      (pss_cons (ps_for (passes_of rfl) rfl (pi_enum (by rfl) T.n_enumerate (pa_cons (pv 2) pa_nil)) (k_gtup (K := K) 2 rfl rfl (pgs_cons (pg_name (i := 3) sc_Program_init.nd rfl (Or.inl rfl)) (pgs_cons (pg_name (i := 4) sc_Program_init.nd rfl (Or.inl rfl)) pgs_nil)))
      (pss_one (ps_if (pt_not (pt_val (d1 (ok_is_program_row T) (hr.mono (by decide)) (by rfl) T.m_is_program_row T.F_is_program_row.kp T.b_is_program_row passL (pa_cons (pv 4) (pa_cons (pv 1) (pa_cons (pe_callB (k_len (K := K) rfl) (by rfl) T.n_len (by decide +kernel) (pa_cons (pv 2) pa_nil)) pa_nil)))))) (pss_one (ps_raise rfl (takes_of rfl rfl rfl rfl) (x_new T.xc_NoProgram T.xi_NoProgram T.xt_NoProgram (ok_NoProgram_init T) (hr.mono (by decide)) T.b_NoProgram_init (by rfl) T.mx_NoProgram (pa_cons (pv 3) pa_nil)))) pss_nil)))
      (pss_cons (k_sfld (K := K) rfl (pv 0) (pv 1) rfl)
      (pss_one (k_sfld (K := K) rfl (pv 0) (pe_callTy (k_list (K := K) rfl) (by rfl) T.n_list (by decide +kernel) (pa_cons (pv 2) pa_nil)) rfl)))))), ?_⟩
    dsimp only [cxOf, st_1, st_2, st_3, st_4, st_5, st_6, List.length_cons, List.length_nil, List.replicate_succ, List.replicate_zero, Nat.reduceAdd, Nat.reduceSub]
    walk_at "gs"
    refine ⟨x, da, rfl, hx, ?_⟩
    walk_at "gs"
    refine i_bool2 (fun c => ?_) (fun c => ?_)
    · have c : whD da 1 1000000000000000000 = false := by cases h : whD da 1 1000000000000000000 <;> simp [h] at c ⊢
      walk_at "gs"
      exact rS c
    have c : whD da 1 1000000000000000000 = true := by cases h : whD da 1 1000000000000000000 <;> simp [h] at c ⊢
    obtain ⟨n, rfl, n1, n2⟩ := whD_int c
    obtain rfl := hx.2 n rfl
    rcases k n rfl c with ⟨db, hdb, nl, rP⟩ | ⟨R0, xs, ds, rfl, hR0, rows, few, rP, k⟩
    · walk_at "gs"
      refine i_isA hdb (kit_lst db) ?_
      rw [nl]
      walk_at "gs"
      refine i_newX ⟨V.non, rfl, fun e fe => ?_⟩ (mono_cons mono_c mono_nil)
      exact rP e _ (Kp.new fe) upd_same
    · have lx := rows.1
      walk_at "gs"
      refine ⟨.ref R0, .ty "list", _, _, true, rfl, .ty "list", .base (.lst hR0), L2.kit_ty (by decide), ?_⟩
      walk_at "gs"
      refine i_forE ?_
      walk_at "gs"
      refine i_eachE (SqL.of hR0) (fun i σ H' => ∃ (o3 o4 : Option V), σ = [some (.ref p), some (.int n), some (.ref R0), o3, o4] ∧ Kp [] H H' ∧ ∀ j, j < i → ∀ d, ds[j]? = some d → (!rowOk d n ds.length) = false) ?_ ?_ ?_ ?_
      · exact ⟨_, _, rfl, Kp.refl, fun j h => absurd h (by omega)⟩
      · rintro i σ H' _ ⟨o3, o4, rfl, k1, _⟩
        exact SqL.of (k1.at_ _ _ hR0 not_nil)
      · rintro i xv T σ H1 hxv ⟨o3, o4, rfl, k1, z⟩ fT
        have kT : Kp [] H1 (upd H1 T (.tup [.int (i : Nat), xv])) := Kp.new fT
        have hT : SqT K (upd H1 T (.tup [.int (i : Nat), xv])) T [.int (i : Nat), xv] := SqT.of upd_same
        obtain ⟨H2, e2⟩ : ∃ H2, H2 = upd H1 T (.tup [.int (i : Nat), xv]) := ⟨_, rfl⟩
        rw [← e2] at kT hT ⊢
        have k2 := Kp.trans k1 kT
        obtain ⟨d, hd, tg, sh⟩ := rows.2 i xv hxv
        have hR2 := k2.at_ _ _ hR0 not_nil
        walk_at "gs"
        refine ⟨xv, d, n, _, rfl, tg.kp k2, sh, fun H3 k3 => ?_⟩
        rw [lx]
        walk_at "gs"
        refine i_bool2 (fun c2 => ?_) (fun c2 => ?_)
        · walk_at "gs"
          refine i_newX ?_ (mono_cons mono_var mono_nil)
          walk_at "gs"
          refine ⟨_, rfl, fun e fe => ?_⟩
          refine rP i (badAt_step (p := fun d => !rowOk d n ds.length) z hd c2) e _ (Kp.trans (Kp.trans k2 k3) (Kp.new fe)) upd_same
        · walk_at "gs"
          refine ⟨_, _, rfl, Kp.trans k2 k3, fun j hj d' hd' => ?_⟩
          by_cases e : j = i
          · subst e
            rw [hd] at hd'
            cases hd'
            exact c2
          · exact z j (by omega) d' hd'
      · rintro σ H1 ⟨o3, o4, rfl, k1, z⟩
        have none_ : badAt ds n = none := badAt_none (p := fun d => !rowOk d n ds.length) (fun j hj d hd => z j (by omega) d hd)
        have hp1 : H1 p = some (.ins T.c_Program dx []) := k1.at_ _ _ hp not_nil
        have hR1 := k1.at_ _ _ hR0 not_nil
        walk_at "gs"
        have nRp : R0 ≠ p := fun e => by
          rw [e, hp1] at hR1
          cases hR1
        have kA : Kp [p] H1 (upd H1 p (HO.ins T.c_Program dx (putF (Str.ofString "own_size") (V.int n) []))) := kp_set hp1 (fun z => z)
        have hpA : (upd H1 p (HO.ins T.c_Program dx (putF (Str.ofString "own_size") (V.int n) []))) p = some (HO.ins T.c_Program dx (putF (Str.ofString "own_size") (V.int n) [])) := upd_same
        have hRA := kA.at_ _ _ hR1 (not_one nRp)
        obtain ⟨HA, eA⟩ : ∃ HA, HA = upd H1 p (HO.ins T.c_Program dx (putF (Str.ofString "own_size") (V.int n) [])) := ⟨_, rfl⟩
        rw [← eA] at kA hpA hRA ⊢
        refine i_listL (SqL.of hRA) ?_
        refine i_new fun R fR => ?_
        have kR : Kp [] HA (upd HA R (.lst xs)) := Kp.new fR
        have hpR := kR.at_ _ _ hpA not_nil
        have hRR : (upd HA R (.lst xs)) R = some (.lst xs) := upd_same
        have nR : R ≠ p := fun e => by
          have := fR.e
          rw [e, hpA] at this
          cases this
        obtain ⟨HB, eB⟩ : ∃ HB, HB = upd HA R (.lst xs) := ⟨_, rfl⟩
        rw [← eB] at kR hpR hRR ⊢
        walk_at "gs"
        have kE : Kp [p] HB (upd HB p (HO.ins T.c_Program dx (putF (Str.ofString "own_rows") (V.ref R) (putF (Str.ofString "own_size") (V.int n) [])))) := kp_set hpR (fun z => z)
        refine k none_ R _ (k1.free (kA.free fR)) (Kp.trans k1.wide (Kp.trans kA (Kp.trans kR.wide kE))) ?_ (kE.at_ _ _ hRR (not_one nR))
        exact upd_same
/-- a program with its rows -/
def ProgAt (CP : Addr) (H : Hp) (p R : Addr) (n : Int) (xs : List V) : Prop := ∃ dx, H p = some (.ins CP dx (pfs n R)) ∧ H R = some (.lst xs)
theorem ProgAt.kp {CP : Addr} {H H' : Hp} {p R : Addr} {n : Int} {xs : List V} {ws : List Addr} (h : ProgAt CP H p R n xs) (k : Kp ws H H') (n1 : p ∉ ws) (n2 : R ∉ ws) : ProgAt CP H' p R n xs := by
  obtain ⟨dx, h1, h2⟩ := h
  exact ⟨dx, k.at_ _ _ h1 n1, k.at_ _ _ h2 n2⟩
theorem ProgAt.kp0 {CP : Addr} {H H' : Hp} {p R : Addr} {n : Int} {xs : List V} (h : ProgAt CP H p R n xs) (k : Kp [] H H') : ProgAt CP H' p R n xs := h.kp k not_nil not_nil
def sp_psize (CP : Addr) : Sp := fun vs H Q _ => ∃ (p R : Addr) (n : Int) (xs : List V), vs = [.ref p] ∧ ProgAt CP H p R n xs ∧ Q (.int n) H
theorem sc_Program_size : FnScope ["self"] ["self"] (defScope s_Program_size) :=
  ⟨rfl, rfl, rfl, by decide +kernel, rfl, by decide +kernel, by decide +kernel⟩
theorem ok_Program_size {P : Program} {w : World} {K : PySem.W.Frag} {mg : Str → Option Value} {base : Heap} (T : Txt w K mg) :
    FnG P w K mg base 1 T.a_Program_size T.d_Program_size ["self"] (sp_psize T.c_Program) := by
  refine okD T.F_Program_size sc_Program_size (fun vs H Q E h => ?_) (fun cdv A outer s H vs Q E hr h => ?_)
  · first
      | (obtain ⟨_, rfl, _⟩ := h; rfl)
      | (obtain ⟨_, _, rfl, _⟩ := h; rfl)
      | (obtain ⟨_, _, _, rfl, _⟩ := h; rfl)
      | (obtain ⟨_, _, _, _, rfl, _⟩ := h; rfl)
      | (obtain ⟨_, _, _, _, _, rfl, _⟩ := h; rfl)
      | (obtain ⟨_, _, _, _, _, _, rfl, _⟩ := h; rfl)
      | (obtain ⟨_, _, _, _, _, _, _, rfl, _⟩ := h; rfl)
      | (obtain ⟨_, _, _, _, _, _, _, _, rfl, _⟩ := h; rfl)
      | (obtain ⟨_, _, _, _, _, _, _, _, _, rfl, _⟩ := h; rfl)
      | (obtain ⟨_, _, _, _, _, _, _, _, _, _, rfl, _⟩ := h; rfl)
      | (obtain ⟨_, _, _, _, _, _, _, _, _, _, _, rfl, _⟩ := h; rfl)
      | (obtain ⟨_, _, _, _, _, _, _, _, _, _, _, _, rfl, _⟩ := h; rfl)
      | (obtain ⟨_, _, _, _, _, _, _, _, _, _, _, _, _, rfl, _⟩ := h; rfl)
      | (obtain ⟨_, _, _, _, _, _, _, _, _, _, _, _, _, _, rfl, _⟩ := h; rfl)
      | (obtain ⟨_, _, _, _, _, _, _, _, _, _, _, _, _, _, _, rfl, _⟩ := h; rfl)
      | (obtain ⟨_, _, _, _, _, _, _, _, _, _, _, _, _, _, _, _, rfl, _⟩ := h; rfl)
      | (obtain ⟨_, _, _, _, _, _, _, _, _, _, _, _, _, _, _, _, _, rfl, _⟩ := h; rfl)
      | (obtain ⟨_, _, _, _, _, _, _, _, _, _, _, _, _, _, _, _, _, _, rfl, _⟩ := h; rfl)
      | (obtain ⟨_, _, _, _, _, _, _, _, _, _, _, _, _, _, _, _, _, _, _, rfl, _⟩ := h; rfl)
  · obtain ⟨p, R, n, xs, rfl, ⟨dx, hp, hR⟩, k⟩ := h
    have cl_Memory := T.cl_Memory
    have na_Memory_pairs := T.na_Memory_pairs
    have na_Memory_wide := T.na_Memory_wide
    have cl_Lone := T.cl_Lone
    have na_Lone_all_rows := T.na_Lone_all_rows
    have na_Lone_cells := T.na_Lone_cells
    have na_Lone_next_row := T.na_Lone_next_row
    have na_Lone_numbers := T.na_Lone_numbers
    have na_Lone_rested := T.na_Lone_rested
    have cl_Program := T.cl_Program
    have na_Program_own_rows := T.na_Program_own_rows
    have na_Program_own_size := T.na_Program_own_size
    refine ⟨_, (pss_one (ps_ret (k_fld (K := K) rfl (pv 0) rfl))), ?_⟩
    dsimp only [cxOf, st_1, st_2, st_3, st_4, st_5, st_6, List.length_cons, List.length_nil, List.replicate_succ, List.replicate_zero, Nat.reduceAdd, Nat.reduceSub]
    walk_at "gs"
    exact k
def sp_prows (CP : Addr) : Sp := fun vs H Q _ => ∃ (p R : Addr) (n : Int) (xs : List V), vs = [.ref p] ∧ ProgAt CP H p R n xs ∧ ∀ L, Fr H L → Q (.ref L) (upd H L (.lst xs))
theorem sc_Program_rows : FnScope ["self"] ["self"] (defScope s_Program_rows) :=
  ⟨rfl, rfl, rfl, by decide +kernel, rfl, by decide +kernel, by decide +kernel⟩
theorem ok_Program_rows {P : Program} {w : World} {K : PySem.W.Frag} {mg : Str → Option Value} {base : Heap} (T : Txt w K mg) :
    FnG P w K mg base 1 T.a_Program_rows T.d_Program_rows ["self"] (sp_prows T.c_Program) := by
  refine okD T.F_Program_rows sc_Program_rows (fun vs H Q E h => ?_) (fun cdv A outer s H vs Q E hr h => ?_)
  · first
      | (obtain ⟨_, rfl, _⟩ := h; rfl)
      | (obtain ⟨_, _, rfl, _⟩ := h; rfl)
      | (obtain ⟨_, _, _, rfl, _⟩ := h; rfl)
      | (obtain ⟨_, _, _, _, rfl, _⟩ := h; rfl)
      | (obtain ⟨_, _, _, _, _, rfl, _⟩ := h; rfl)
      | (obtain ⟨_, _, _, _, _, _, rfl, _⟩ := h; rfl)
      | (obtain ⟨_, _, _, _, _, _, _, rfl, _⟩ := h; rfl)
      | (obtain ⟨_, _, _, _, _, _, _, _, rfl, _⟩ := h; rfl)
      | (obtain ⟨_, _, _, _, _, _, _, _, _, rfl, _⟩ := h; rfl)
      | (obtain ⟨_, _, _, _, _, _, _, _, _, _, rfl, _⟩ := h; rfl)
      | (obtain ⟨_, _, _, _, _, _, _, _, _, _, _, rfl, _⟩ := h; rfl)
      | (obtain ⟨_, _, _, _, _, _, _, _, _, _, _, _, rfl, _⟩ := h; rfl)
      | (obtain ⟨_, _, _, _, _, _, _, _, _, _, _, _, _, rfl, _⟩ := h; rfl)
      | (obtain ⟨_, _, _, _, _, _, _, _, _, _, _, _, _, _, rfl, _⟩ := h; rfl)
      | (obtain ⟨_, _, _, _, _, _, _, _, _, _, _, _, _, _, _, rfl, _⟩ := h; rfl)
      | (obtain ⟨_, _, _, _, _, _, _, _, _, _, _, _, _, _, _, _, rfl, _⟩ := h; rfl)
      | (obtain ⟨_, _, _, _, _, _, _, _, _, _, _, _, _, _, _, _, _, rfl, _⟩ := h; rfl)
      | (obtain ⟨_, _, _, _, _, _, _, _, _, _, _, _, _, _, _, _, _, _, rfl, _⟩ := h; rfl)
      | (obtain ⟨_, _, _, _, _, _, _, _, _, _, _, _, _, _, _, _, _, _, _, rfl, _⟩ := h; rfl)
  · obtain ⟨p, R, n, xs, rfl, ⟨dx, hp, hR⟩, k⟩ := h
    have cl_Memory := T.cl_Memory
    have na_Memory_pairs := T.na_Memory_pairs
    have na_Memory_wide := T.na_Memory_wide
    have cl_Lone := T.cl_Lone
    have na_Lone_all_rows := T.na_Lone_all_rows
    have na_Lone_cells := T.na_Lone_cells
    have na_Lone_next_row := T.na_Lone_next_row
    have na_Lone_numbers := T.na_Lone_numbers
    have na_Lone_rested := T.na_Lone_rested
    have cl_Program := T.cl_Program
    have na_Program_own_rows := T.na_Program_own_rows
    have na_Program_own_size := T.na_Program_own_size
    refine ⟨_, (pss_one (ps_ret (pe_callTy (k_list (K := K) rfl) (by rfl) T.n_list (by decide +kernel) (pa_cons (k_fld (K := K) rfl (pv 0) rfl) pa_nil)))), ?_⟩
    dsimp only [cxOf, st_1, st_2, st_3, st_4, st_5, st_6, List.length_cons, List.length_nil, List.replicate_succ, List.replicate_zero, Nat.reduceAdd, Nat.reduceSub]
    walk_at "gs"
    exact i_new fun L fL => k L fL
def sp_plen (CP : Addr) : Sp := fun vs H Q _ => ∃ (p R : Addr) (n : Int) (xs : List V), vs = [.ref p] ∧ ProgAt CP H p R n xs ∧ Q (.int xs.length) H
theorem sc_Program_len : FnScope ["self"] ["self"] (defScope s_Program_len) :=
  ⟨rfl, rfl, rfl, by decide +kernel, rfl, by decide +kernel, by decide +kernel⟩
theorem ok_Program_len {P : Program} {w : World} {K : PySem.W.Frag} {mg : Str → Option Value} {base : Heap} (T : Txt w K mg) :
    FnG P w K mg base 1 T.a_Program_len T.d_Program_len ["self"] (sp_plen T.c_Program) := by
  refine okD T.F_Program_len sc_Program_len (fun vs H Q E h => ?_) (fun cdv A outer s H vs Q E hr h => ?_)
  · first
      | (obtain ⟨_, rfl, _⟩ := h; rfl)
      | (obtain ⟨_, _, rfl, _⟩ := h; rfl)
      | (obtain ⟨_, _, _, rfl, _⟩ := h; rfl)
      | (obtain ⟨_, _, _, _, rfl, _⟩ := h; rfl)
      | (obtain ⟨_, _, _, _, _, rfl, _⟩ := h; rfl)
      | (obtain ⟨_, _, _, _, _, _, rfl, _⟩ := h; rfl)
      | (obtain ⟨_, _, _, _, _, _, _, rfl, _⟩ := h; rfl)
      | (obtain ⟨_, _, _, _, _, _, _, _, rfl, _⟩ := h; rfl)
      | (obtain ⟨_, _, _, _, _, _, _, _, _, rfl, _⟩ := h; rfl)
      | (obtain ⟨_, _, _, _, _, _, _, _, _, _, rfl, _⟩ := h; rfl)
      | (obtain ⟨_, _, _, _, _, _, _, _, _, _, _, rfl, _⟩ := h; rfl)
      | (obtain ⟨_, _, _, _, _, _, _, _, _, _, _, _, rfl, _⟩ := h; rfl)
      | (obtain ⟨_, _, _, _, _, _, _, _, _, _, _, _, _, rfl, _⟩ := h; rfl)
      | (obtain ⟨_, _, _, _, _, _, _, _, _, _, _, _, _, _, rfl, _⟩ := h; rfl)
      | (obtain ⟨_, _, _, _, _, _, _, _, _, _, _, _, _, _, _, rfl, _⟩ := h; rfl)
      | (obtain ⟨_, _, _, _, _, _, _, _, _, _, _, _, _, _, _, _, rfl, _⟩ := h; rfl)
      | (obtain ⟨_, _, _, _, _, _, _, _, _, _, _, _, _, _, _, _, _, rfl, _⟩ := h; rfl)
      | (obtain ⟨_, _, _, _, _, _, _, _, _, _, _, _, _, _, _, _, _, _, rfl, _⟩ := h; rfl)
      | (obtain ⟨_, _, _, _, _, _, _, _, _, _, _, _, _, _, _, _, _, _, _, rfl, _⟩ := h; rfl)
  · obtain ⟨p, R, n, xs, rfl, ⟨dx, hp, hR⟩, k⟩ := h
    have cl_Memory := T.cl_Memory
    have na_Memory_pairs := T.na_Memory_pairs
    have na_Memory_wide := T.na_Memory_wide
    have cl_Lone := T.cl_Lone
    have na_Lone_all_rows := T.na_Lone_all_rows
    have na_Lone_cells := T.na_Lone_cells
    have na_Lone_next_row := T.na_Lone_next_row
    have na_Lone_numbers := T.na_Lone_numbers
    have na_Lone_rested := T.na_Lone_rested
    have cl_Program := T.cl_Program
    have na_Program_own_rows := T.na_Program_own_rows
    have na_Program_own_size := T.na_Program_own_size
    refine ⟨_, (pss_one (ps_ret (pe_callB (k_len (K := K) rfl) (by rfl) T.n_len (by decide +kernel) (pa_cons (k_fld (K := K) rfl (pv 0) rfl) pa_nil)))), ?_⟩
    dsimp only [cxOf, st_1, st_2, st_3, st_4, st_5, st_6, List.length_cons, List.length_nil, List.replicate_succ, List.replicate_zero, Nat.reduceAdd, Nat.reduceSub]
    walk_at "gs"
    exact k
theorem ty_prog {K : PySem.W.Frag} {C : Addr} {H : Hp} {p R : Addr} {n : Int} {xs : List V} (ic : C8.InsC K C) (h : ProgAt C H p R n xs) : TyX K H (.ref p) (.ref C) := by
  obtain ⟨dx, e, _⟩ := h
  exact .base (.ins e ic.cl ic.ha ic.hn ic.htk ic.hm)
/-- data of a program: its size, its rows -/
def pdat (n : Int) (ds : List PyData) : PyData := .tuple [.int n, .list ds]
def sp_peq (K : PySem.W.Frag) (CP : Addr) : Sp := fun vs H Q _ => ∃ (p R : Addr) (n : Int) (xs : List V) (y : V), vs = [.ref p, y] ∧ ProgAt CP H p R n xs ∧
  ((∃ (p2 R2 : Addr) (n2 : Int) (ys : List V) (ds es : List PyData), y = .ref p2 ∧ ProgAt CP H p2 R2 n2 ys ∧ DpAll K H xs ds ∧ DpAll K H ys es ∧ SeqAt.shaped (pdat n ds) = true ∧ SeqAt.shaped (pdat n2 es) = true ∧ imms ds = true ∧ imms es = true ∧ ∀ H', Kp [] H H' → Q (.bl (PyData.eqv (pdat n ds) (pdat n2 es))) H') ∨
   (∃ t, TyX K H y t ∧ PySem.W.kitOne K t (.ref CP) = some false ∧ Q (.bl false) H))
theorem sc_Program_eq : FnScope ["self", "other"] ["self", "other"] (defScope s_Program_eq) :=
  ⟨rfl, rfl, rfl, by decide +kernel, rfl, by decide +kernel, by decide +kernel⟩
theorem ok_Program_eq {P : Program} {w : World} {K : PySem.W.Frag} {mg : Str → Option Value} {base : Heap} (T : Txt w K mg) :
    FnG P w K mg base 1 T.a_Program_eq T.d_Program_eq ["self", "other"] (sp_peq K T.c_Program) := by
  refine okD T.F_Program_eq sc_Program_eq (fun vs H Q E h => ?_) (fun cdv A outer s H vs Q E hr h => ?_)
  · first
      | (obtain ⟨_, rfl, _⟩ := h; rfl)
      | (obtain ⟨_, _, rfl, _⟩ := h; rfl)
      | (obtain ⟨_, _, _, rfl, _⟩ := h; rfl)
      | (obtain ⟨_, _, _, _, rfl, _⟩ := h; rfl)
      | (obtain ⟨_, _, _, _, _, rfl, _⟩ := h; rfl)
      | (obtain ⟨_, _, _, _, _, _, rfl, _⟩ := h; rfl)
      | (obtain ⟨_, _, _, _, _, _, _, rfl, _⟩ := h; rfl)
      | (obtain ⟨_, _, _, _, _, _, _, _, rfl, _⟩ := h; rfl)
      | (obtain ⟨_, _, _, _, _, _, _, _, _, rfl, _⟩ := h; rfl)
      | (obtain ⟨_, _, _, _, _, _, _, _, _, _, rfl, _⟩ := h; rfl)
      | (obtain ⟨_, _, _, _, _, _, _, _, _, _, _, rfl, _⟩ := h; rfl)
      | (obtain ⟨_, _, _, _, _, _, _, _, _, _, _, _, rfl, _⟩ := h; rfl)
      | (obtain ⟨_, _, _, _, _, _, _, _, _, _, _, _, _, rfl, _⟩ := h; rfl)
      | (obtain ⟨_, _, _, _, _, _, _, _, _, _, _, _, _, _, rfl, _⟩ := h; rfl)
      | (obtain ⟨_, _, _, _, _, _, _, _, _, _, _, _, _, _, _, rfl, _⟩ := h; rfl)
      | (obtain ⟨_, _, _, _, _, _, _, _, _, _, _, _, _, _, _, _, rfl, _⟩ := h; rfl)
      | (obtain ⟨_, _, _, _, _, _, _, _, _, _, _, _, _, _, _, _, _, rfl, _⟩ := h; rfl)
      | (obtain ⟨_, _, _, _, _, _, _, _, _, _, _, _, _, _, _, _, _, _, rfl, _⟩ := h; rfl)
      | (obtain ⟨_, _, _, _, _, _, _, _, _, _, _, _, _, _, _, _, _, _, _, rfl, _⟩ := h; rfl)
  · obtain ⟨p, R, n, xs, y, rfl, P1, hy⟩ := h
    obtain ⟨dx, hp, hR⟩ := id P1
    have cl_Memory := T.cl_Memory
    have na_Memory_pairs := T.na_Memory_pairs
    have na_Memory_wide := T.na_Memory_wide
    have cl_Lone := T.cl_Lone
    have na_Lone_all_rows := T.na_Lone_all_rows
    have na_Lone_cells := T.na_Lone_cells
    have na_Lone_next_row := T.na_Lone_next_row
    have na_Lone_numbers := T.na_Lone_numbers
    have na_Lone_rested := T.na_Lone_rested
    have cl_Program := T.cl_Program
    have na_Program_own_rows := T.na_Program_own_rows
    have na_Program_own_size := T.na_Program_own_size
    refine ⟨_, (pss_one (ps_ret (pe_and (pe_callB (k_isi (K := K) rfl) (by rfl) T.n_isinstance (by decide +kernel) (pa_cons (pv 1) (pa_cons (pe_glob (v := .ref T.c_Program) rfl T.mg_Program rfl) pa_nil))) (pe_one (pe_cmpR (k_eq (K := K) rfl hr.r.units) (pe_tup (pa_cons (k_fld (K := K) rfl (pv 0) rfl) (pa_cons (k_fld (K := K) rfl (pv 0) rfl) pa_nil))) (pe_tup (pa_cons (k_fld (K := K) rfl (pv 1) rfl) (pa_cons (k_fld (K := K) rfl (pv 1) rfl) pa_nil))) (nomark _)))))), ?_⟩
    dsimp only [cxOf, st_1, st_2, st_3, st_4, st_5, st_6, List.length_cons, List.length_nil, List.replicate_succ, List.replicate_zero, Nat.reduceAdd, Nat.reduceSub]
    walk_at "gs"
    rcases hy with ⟨p2, R2, n2, ys, ds, es, rfl, P2, dd, de, sd, se, im, im2, k⟩ | ⟨t, ty, no, k⟩
    · refine ⟨_, _, _, _, _, rfl, .own _, ty_prog T.ic_Program P2, T.ic_Program.me, ?_⟩
      obtain ⟨dx2, hp2, hR2⟩ := id P2
      walk_at "gs"
      refine i_new fun t1 f1 => ?_
      walk_at "gs"
      refine i_new fun t2 f2 => ?_
      have k1 : Kp [] H (upd H t1 (.tup [V.int n, V.ref R])) := Kp.new f1
      have k2 : Kp [] (upd H t1 (.tup [V.int n, V.ref R])) (upd (upd H t1 (.tup [V.int n, V.ref R])) t2 (.tup [V.int n2, V.ref R2])) := Kp.new f2
      have h1 : SqT K (upd (upd H t1 (.tup [V.int n, V.ref R])) t2 (.tup [V.int n2, V.ref R2])) t1 [V.int n, V.ref R] := k2.seqT (SqT.of upd_same)
      have h2 : SqT K (upd (upd H t1 (.tup [V.int n, V.ref R])) t2 (.tup [V.int n2, V.ref R2])) t2 [V.int n2, V.ref R2] := SqT.of upd_same
      have k02 := Kp.trans k1 k2
      obtain ⟨H2, e2⟩ : ∃ H2, H2 = upd (upd H t1 (.tup [V.int n, V.ref R])) t2 (.tup [V.int n2, V.ref R2]) := ⟨_, rfl⟩
      rw [← e2] at h1 h2 k02 ⊢
      walk_at "gs"
      refine i_eqD (d := pdat n ds) (e := pdat n2 es) (.tup h1 (.cons (.int _) (.cons (.lst (SqL.of (k02.at_ _ _ hR not_nil)) (dpa_imm k02 _ _ im dd)) .nil))) (.tup h2 (.cons (.int _) (.cons (.lst (SqL.of (k02.at_ _ _ hR2 not_nil)) (dpa_imm k02 _ _ im2 de)) .nil))) sd se ?_
      exact k H2 k02
    · refine ⟨_, _, _, _, _, rfl, .own _, ty, no, ?_⟩
      walk_at "gs"
      exact k

/-! ### a program's rows, gone alone -/
def rowD (r : Str × List Int) : PyData := .tuple (.str r.1 :: r.2.map PyData.int)
/-- what stands: the row that is next (below 0: none), how it rests, the cells, what was told -/
structure LS where
  place : Int
  rest : Str
  cs : List Int
  told : List Int
def comeTo (rs : List (Str × List Int)) (pl : Nat) (s : LS) : LS := match rs[pl]? with
  | none => { s with place := -1, rest := "done" }
  | some r => if r.1 = "done" then { s with place := -1, rest := "done" } else { s with place := pl }
def lfs (RL m NL : Addr) (r : Str) (pl : Int) : List (Str × V) := [("all_rows", .ref RL), ("cells", .ref m), ("numbers", .ref NL), ("rested", .str r), ("next_row", .int pl)]
structure LoneAt (K : PySem.W.Frag) (CM CL : Addr) (H : Hp) (a RL m NL : Addr) (rs : List (Str × List Int)) (s : LS) : Prop where
  ins : ∃ dx, H a = some (.ins CL dx (lfs RL m NL s.rest s.place))
  rows : ∃ xs, H RL = some (.lst xs) ∧ DpAll K H xs (rs.map rowD)
  mem : MemAt K CM H m s.cs
  nums : H NL = some (.lst (s.told.map V.int))
  offN : Off H m NL
  offR : Off H m RL
  ne : RL ≠ NL
theorem rowD_imm (r : Str × List Int) : imm (rowD r) = true := by
  have all : ∀ l : List Int, imms (l.map PyData.int) = true := fun l => by
    induction l with
    | nil => rfl
    | cons n l ih => simp only [List.map_cons, imms, G.imm, ih, Bool.and_self]
  simp only [rowD, G.imm, imms, all, Bool.and_self]
theorem rowsD_imm : ∀ rs : List (Str × List Int), imms (rs.map rowD) = true
  | [] => rfl
  | r :: rs => by
    simp only [List.map_cons, imms, rowD_imm, rowsD_imm rs, Bool.and_self]
section
variable {K : PySem.W.Frag} {CM CL : Addr} {H H' : Hp} {a RL m NL : Addr} {rs : List (Str × List Int)} {s : LS}
theorem LoneAt.kp0 (h : LoneAt K CM CL H a RL m NL rs s) (k : Kp [] H H') : LoneAt K CM CL H' a RL m NL rs s := by
  obtain ⟨⟨dx, h1⟩, ⟨xs, h2, h3⟩, h4, h5, h6, h7, h8⟩ := h
  exact ⟨⟨dx, k.at_ _ _ h1 not_nil⟩, ⟨xs, k.at_ _ _ h2 not_nil, dpa_imm k _ _ (rowsD_imm rs) h3⟩, mem_kp0 h4 k, k.at_ _ _ h5 not_nil, off_kp k (tr_mem h4) not_nil h6, off_kp k (tr_mem h4) not_nil h7, h8⟩
theorem LoneAt.am (h : LoneAt K CM CL H a RL m NL rs s) (no : CL ≠ CM) : a ≠ m := fun e => by
  obtain ⟨dx, h1⟩ := h.ins
  obtain ⟨dx2, l, h2, _⟩ := h.mem
  rw [e, h2] at h1
  injection h1 with h1
  injection h1 with h1
  exact no h1.symm
theorem LoneAt.aR (h : LoneAt K CM CL H a RL m NL rs s) : RL ≠ a := fun e => by
  obtain ⟨dx, h1⟩ := h.ins
  obtain ⟨xs, h2, _⟩ := h.rows
  rw [e, h1] at h2
  cases h2
theorem LoneAt.aN (h : LoneAt K CM CL H a RL m NL rs s) : NL ≠ a := fun e => by
  obtain ⟨dx, h1⟩ := h.ins
  have h2 := h.nums
  rw [e, h1] at h2
  cases h2
/-- the instance written: where it stands, how it rests -/
theorem LoneAt.set (h : LoneAt K CM CL H a RL m NL rs s) (no : CL ≠ CM) (k : Kp [a] H H') {r : Str} {pl : Int} {dx : Addr} (e : H' a = some (.ins CL dx (lfs RL m NL r pl))) : LoneAt K CM CL H' a RL m NL rs { s with place := pl, rest := r } := by
  obtain ⟨xs, h2, h3⟩ := h.rows
  have nm := h.am no
  have oth : Oth H m a := by
    obtain ⟨dx, h1⟩ := h.ins
    exact .inr (.inl ⟨nm, _, _, _, h1⟩)
  have nma : m ∉ [a] := not_one (Ne.symm nm)
  exact ⟨⟨dx, e⟩, ⟨xs, k.at_ _ _ h2 (not_one h.aR), dpa_imm k _ _ (rowsD_imm rs) h3⟩, mem_kp1 h.mem k oth, k.at_ _ _ h.nums (not_one h.aN), off_kp k (tr_mem h.mem) nma h.offN, off_kp k (tr_mem h.mem) nma h.offR, h.ne⟩
end
def sp_lrest (K : PySem.W.Frag) (CM CL : Addr) : Sp := fun vs H Q _ => ∃ (a RL m NL : Addr) (rs : List (Str × List Int)) (s : LS) (w : Str), vs = [.ref a, .str w] ∧ CL ≠ CM ∧ LoneAt K CM CL H a RL m NL rs s ∧
  ∀ H', Kp [a] H H' → LoneAt K CM CL H' a RL m NL rs { s with place := -1, rest := w } → Q .non H'
theorem sc_Lone_rest : FnScope ["self", "word"] ["self", "word"] (defScope s_Lone_rest) :=
  ⟨rfl, rfl, rfl, by decide +kernel, rfl, by decide +kernel, by decide +kernel⟩
theorem ok_Lone_rest {P : Program} {w : World} {K : PySem.W.Frag} {mg : Str → Option Value} {base : Heap} (T : Txt w K mg) :
    FnG P w K mg base 1 T.a_Lone_rest T.d_Lone_rest ["self", "word"] (sp_lrest K T.c_Memory T.c_Lone) := by
  refine okD T.F_Lone_rest sc_Lone_rest (fun vs H Q E h => ?_) (fun cdv A outer s H vs Q E hr h => ?_)
  · first
      | (obtain ⟨_, rfl, _⟩ := h; rfl)
      | (obtain ⟨_, _, rfl, _⟩ := h; rfl)
      | (obtain ⟨_, _, _, rfl, _⟩ := h; rfl)
      | (obtain ⟨_, _, _, _, rfl, _⟩ := h; rfl)
      | (obtain ⟨_, _, _, _, _, rfl, _⟩ := h; rfl)
      | (obtain ⟨_, _, _, _, _, _, rfl, _⟩ := h; rfl)
      | (obtain ⟨_, _, _, _, _, _, _, rfl, _⟩ := h; rfl)
      | (obtain ⟨_, _, _, _, _, _, _, _, rfl, _⟩ := h; rfl)
      | (obtain ⟨_, _, _, _, _, _, _, _, _, rfl, _⟩ := h; rfl)
      | (obtain ⟨_, _, _, _, _, _, _, _, _, _, rfl, _⟩ := h; rfl)
      | (obtain ⟨_, _, _, _, _, _, _, _, _, _, _, rfl, _⟩ := h; rfl)
      | (obtain ⟨_, _, _, _, _, _, _, _, _, _, _, _, rfl, _⟩ := h; rfl)
      | (obtain ⟨_, _, _, _, _, _, _, _, _, _, _, _, _, rfl, _⟩ := h; rfl)
      | (obtain ⟨_, _, _, _, _, _, _, _, _, _, _, _, _, _, rfl, _⟩ := h; rfl)
      | (obtain ⟨_, _, _, _, _, _, _, _, _, _, _, _, _, _, _, rfl, _⟩ := h; rfl)
      | (obtain ⟨_, _, _, _, _, _, _, _, _, _, _, _, _, _, _, _, rfl, _⟩ := h; rfl)
      | (obtain ⟨_, _, _, _, _, _, _, _, _, _, _, _, _, _, _, _, _, rfl, _⟩ := h; rfl)
      | (obtain ⟨_, _, _, _, _, _, _, _, _, _, _, _, _, _, _, _, _, _, rfl, _⟩ := h; rfl)
      | (obtain ⟨_, _, _, _, _, _, _, _, _, _, _, _, _, _, _, _, _, _, _, rfl, _⟩ := h; rfl)
  · obtain ⟨a, RL, m, NL, rs, s, w, rfl, no, L, k⟩ := h
    obtain ⟨dx, ha⟩ := L.ins
    have cl_Memory := T.cl_Memory
    have na_Memory_pairs := T.na_Memory_pairs
    have na_Memory_wide := T.na_Memory_wide
    have cl_Lone := T.cl_Lone
    have na_Lone_all_rows := T.na_Lone_all_rows
    have na_Lone_cells := T.na_Lone_cells
    have na_Lone_next_row := T.na_Lone_next_row
    have na_Lone_numbers := T.na_Lone_numbers
    have na_Lone_rested := T.na_Lone_rested
    have cl_Program := T.cl_Program
    have na_Program_own_rows := T.na_Program_own_rows
    have na_Program_own_size := T.na_Program_own_size
    refine ⟨_, (pss_cons (k_sfld (K := K) rfl (pv 0) (pe_glob (v := V.int (-1)) rfl T.g_NO_ROW ⟨_, rfl⟩) rfl)
      (pss_one (k_sfld (K := K) rfl (pv 0) (pv 1) rfl))), ?_⟩
    dsimp only [cxOf, st_1, st_2, st_3, st_4, st_5, st_6, List.length_cons, List.length_nil, List.replicate_succ, List.replicate_zero, Nat.reduceAdd, Nat.reduceSub]
    walk_at "gs"
    have k1 : Kp [a] H (upd H a (HO.ins T.c_Lone dx (lfs RL m NL s.rest (-1)))) := kp_set ha (fun z => z)
    have k2 : Kp [a] (upd H a (HO.ins T.c_Lone dx (lfs RL m NL s.rest (-1)))) (upd (upd H a (HO.ins T.c_Lone dx (lfs RL m NL s.rest (-1)))) a (HO.ins T.c_Lone dx (lfs RL m NL w (-1)))) := kp_set upd_same (fun z => z)
    exact k _ (Kp.trans k1 k2) (L.set no (Kp.trans k1 k2) upd_same)
theorem eqv_done {r : Str × List Int} (h : r.1 = "done" → r.2 = []) : PyData.eqv (rowD r) (.tuple [.str "done"]) = decide (r.1 = "done") := by
  obtain ⟨w, ns⟩ := r
  by_cases c : w = "done"
  · have e : ns = [] := h c
    subst c e
    simp [rowD, PyData.eqv, PyData.eqvAll]
  · rw [decide_eq_false c]
    have e : (w == Str.ofString "done") = false := beq_eq_false_iff_ne.mpr c
    simp only [rowD, PyData.eqv, PyData.eqvAll, e, Bool.false_and]
def sp_lcome (K : PySem.W.Frag) (CM CL : Addr) : Sp := fun vs H Q _ => ∃ (a RL m NL : Addr) (rs : List (Str × List Int)) (s : LS) (pl : Nat), vs = [.ref a, .int pl] ∧ CL ≠ CM ∧ LoneAt K CM CL H a RL m NL rs s ∧ pl ≤ rs.length ∧ (∀ r ∈ rs, SeqAt.shaped (rowD r) = true) ∧
  (∀ r ∈ rs, r.1 = "done" → r.2 = []) ∧ ∀ H', Kp [a] H H' → LoneAt K CM CL H' a RL m NL rs (comeTo rs pl s) → Q .non H'
theorem sc_Lone_come_to : FnScope ["self", "place"] ["self", "place"] (defScope s_Lone_come_to) :=
  ⟨rfl, rfl, rfl, by decide +kernel, rfl, by decide +kernel, by decide +kernel⟩
theorem ok_Lone_come_to {P : Program} {w : World} {K : PySem.W.Frag} {mg : Str → Option Value} {base : Heap} (T : Txt w K mg) :
    FnG P w K mg base 2 T.a_Lone_come_to T.d_Lone_come_to ["self", "place"] (sp_lcome K T.c_Memory T.c_Lone) := by
  refine okD T.F_Lone_come_to sc_Lone_come_to (fun vs H Q E h => ?_) (fun cdv A outer s H vs Q E hr h => ?_)
  · first
      | (obtain ⟨_, rfl, _⟩ := h; rfl)
      | (obtain ⟨_, _, rfl, _⟩ := h; rfl)
      | (obtain ⟨_, _, _, rfl, _⟩ := h; rfl)
      | (obtain ⟨_, _, _, _, rfl, _⟩ := h; rfl)
      | (obtain ⟨_, _, _, _, _, rfl, _⟩ := h; rfl)
      | (obtain ⟨_, _, _, _, _, _, rfl, _⟩ := h; rfl)
      | (obtain ⟨_, _, _, _, _, _, _, rfl, _⟩ := h; rfl)
      | (obtain ⟨_, _, _, _, _, _, _, _, rfl, _⟩ := h; rfl)
      | (obtain ⟨_, _, _, _, _, _, _, _, _, rfl, _⟩ := h; rfl)
      | (obtain ⟨_, _, _, _, _, _, _, _, _, _, rfl, _⟩ := h; rfl)
      | (obtain ⟨_, _, _, _, _, _, _, _, _, _, _, rfl, _⟩ := h; rfl)
      | (obtain ⟨_, _, _, _, _, _, _, _, _, _, _, _, rfl, _⟩ := h; rfl)
      | (obtain ⟨_, _, _, _, _, _, _, _, _, _, _, _, _, rfl, _⟩ := h; rfl)
      | (obtain ⟨_, _, _, _, _, _, _, _, _, _, _, _, _, _, rfl, _⟩ := h; rfl)
      | (obtain ⟨_, _, _, _, _, _, _, _, _, _, _, _, _, _, _, rfl, _⟩ := h; rfl)
      | (obtain ⟨_, _, _, _, _, _, _, _, _, _, _, _, _, _, _, _, rfl, _⟩ := h; rfl)
      | (obtain ⟨_, _, _, _, _, _, _, _, _, _, _, _, _, _, _, _, _, rfl, _⟩ := h; rfl)
      | (obtain ⟨_, _, _, _, _, _, _, _, _, _, _, _, _, _, _, _, _, _, rfl, _⟩ := h; rfl)
      | (obtain ⟨_, _, _, _, _, _, _, _, _, _, _, _, _, _, _, _, _, _, _, rfl, _⟩ := h; rfl)
  · obtain ⟨a, RL, m, NL, rs, s, pl, rfl, no, L, le, shp, dn, k⟩ := h
    obtain ⟨dx, ha⟩ := L.ins
    obtain ⟨xs, hR, da⟩ := L.rows
    have lx := dpa_len da
    rw [List.length_map] at lx
    have cl_Memory := T.cl_Memory
    have na_Memory_pairs := T.na_Memory_pairs
    have na_Memory_wide := T.na_Memory_wide
    have cl_Lone := T.cl_Lone
    have na_Lone_all_rows := T.na_Lone_all_rows
    have na_Lone_cells := T.na_Lone_cells
    have na_Lone_next_row := T.na_Lone_next_row
    have na_Lone_numbers := T.na_Lone_numbers
    have na_Lone_rested := T.na_Lone_rested
    have cl_Program := T.cl_Program
    have na_Program_own_rows := T.na_Program_own_rows
    have na_Program_own_size := T.na_Program_own_size
    refine ⟨_, (pss_one (ps_if (PW.pt (pw_or (pt_cmpR (k_eq (K := K) rfl hr.r.units) (pv 1) (pe_callB (k_len (K := K) rfl) (by rfl) T.n_len (by decide +kernel) (pa_cons (k_fld (K := K) rfl (pv 0) rfl) pa_nil)) (nomark _)) (pw_or1 (pt_cmpR (k_eq (K := K) rfl hr.r.units) (pe_ix (k_ix (K := K) rfl) (k_fld (K := K) rfl (pv 0) rfl) (pv 1) (fun _ _ => rfl)) (pe_tup (pa_cons pe_str pa_nil)) (nomark _))))) (pss_one (ps_expr (dm T.cl_Lone T.me_Lone_rest (ok_Lone_rest T) (hr.mono (by decide)) T.b_Lone_rest passL (pv 0) (pa_cons (pe_glob (v := V.str "done") rfl T.g_DONE ⟨_, rfl⟩) pa_nil)))) (pss_one (k_sfld (K := K) rfl (pv 0) (pv 1) rfl)))), ?_⟩
    dsimp only [cxOf, st_1, st_2, st_3, st_4, st_5, st_6, List.length_cons, List.length_nil, List.replicate_succ, List.replicate_zero, Nat.reduceAdd, Nat.reduceSub]
    walk_at "gs"
    refine i_dec (fun c => ?_) (fun c => ?_)
    · have e : comeTo rs pl s = { s with place := -1, rest := "done" } := by
        unfold comeTo
        rw [List.getElem?_eq_none (by omega)]
      walk_at "gs"
      refine ⟨a, RL, m, NL, rs, s, "done", rfl, no, L, fun H' k' L' => ?_⟩
      walk_at "gs"
      rw [e] at k
      exact k H' k' L'
    obtain ⟨r, hr⟩ : ∃ r, rs[pl]? = some r := ⟨_, List.getElem?_eq_getElem (by omega)⟩
    have hrm := List.mem_of_getElem? hr
    obtain ⟨x, hx, hxd⟩ := dpa_get da (d := rowD r) (by rw [List.getElem?_map, hr]; rfl)
    have hat : atI xs (pl : Int) = some x := atI_nat hx
    walk_at "gs"
    refine i_new fun t ft => ?_
    have kt : Kp [] H (upd H t (.tup [V.str (Str.ofString "done")])) := Kp.new ft
    have ht : SqT K (upd H t (.tup [V.str (Str.ofString "done")])) t [V.str (Str.ofString "done")] := SqT.of upd_same
    obtain ⟨H1, e1⟩ : ∃ H1, H1 = upd H t (.tup [V.str (Str.ofString "done")]) := ⟨_, rfl⟩
    rw [← e1] at kt ht ⊢
    have L1 := L.kp0 kt
    have ha1 := kt.at_ _ _ ha not_nil
    walk_at "gs"
    refine i_eqD (d := rowD r) (e := .tuple [.str "done"]) (dp_imm kt _ _ (rowD_imm r) hxd) (.tup ht (.cons (.str _) .nil)) (shp r hrm) (by decide +kernel) ?_
    rw [eqv_done (dn r hrm)]
    walk_at "gs"
    refine i_dec (fun cd => ?_) (fun cd => ?_)
    · have e : comeTo rs pl s = { s with place := -1, rest := "done" } := by
        unfold comeTo
        rw [hr]
        simp only
        rw [if_pos cd]
      walk_at "gs"
      refine ⟨a, RL, m, NL, rs, s, "done", rfl, no, L1, fun H' k' L' => ?_⟩
      walk_at "gs"
      rw [e] at k
      exact k H' (Kp.trans kt.wide k') L'
    · have e : comeTo rs pl s = { s with place := pl } := by
        unfold comeTo
        rw [hr]
        simp only
        rw [if_neg cd]
      walk_at "gs"
      rw [e] at k
      have kw : Kp [a] H1 (upd H1 a (HO.ins T.c_Lone dx (lfs RL m NL s.rest pl))) := kp_set ha1 (fun z => z)
      exact k _ (Kp.trans kt.wide kw) (L1.set no kw upd_same)
/-- the row that is next -/
def rowAt (rs : List (Str × List Int)) (s : LS) : Option (Str × List Int) := if s.place = -1 then none else rs[s.place.toNat]?
def atFork (rs : List (Str × List Int)) (s : LS) : Bool := match rowAt rs s with
  | some r => decide (r.1 = "fork")
  | none => false
/-- none is next, or one of the rows -/
def PlOk (rs : List (Str × List Int)) (s : LS) : Prop := s.place = -1 ∨ ∃ i : Nat, s.place = i ∧ i < rs.length
def sp_latfork (K : PySem.W.Frag) (CM CL : Addr) : Sp := fun vs H Q _ => ∃ (a RL m NL : Addr) (rs : List (Str × List Int)) (s : LS), vs = [.ref a] ∧ LoneAt K CM CL H a RL m NL rs s ∧ PlOk rs s ∧ Q (.bl (atFork rs s)) H
theorem sc_Lone_is_at_fork : FnScope ["self"] ["self"] (defScope s_Lone_is_at_fork) :=
  ⟨rfl, rfl, rfl, by decide +kernel, rfl, by decide +kernel, by decide +kernel⟩
theorem ok_Lone_is_at_fork {P : Program} {w : World} {K : PySem.W.Frag} {mg : Str → Option Value} {base : Heap} (T : Txt w K mg) :
    FnG P w K mg base 1 T.a_Lone_is_at_fork T.d_Lone_is_at_fork ["self"] (sp_latfork K T.c_Memory T.c_Lone) := by
  refine okD T.F_Lone_is_at_fork sc_Lone_is_at_fork (fun vs H Q E h => ?_) (fun cdv A outer s H vs Q E hr h => ?_)
  · first
      | (obtain ⟨_, rfl, _⟩ := h; rfl)
      | (obtain ⟨_, _, rfl, _⟩ := h; rfl)
      | (obtain ⟨_, _, _, rfl, _⟩ := h; rfl)
      | (obtain ⟨_, _, _, _, rfl, _⟩ := h; rfl)
      | (obtain ⟨_, _, _, _, _, rfl, _⟩ := h; rfl)
      | (obtain ⟨_, _, _, _, _, _, rfl, _⟩ := h; rfl)
      | (obtain ⟨_, _, _, _, _, _, _, rfl, _⟩ := h; rfl)
      | (obtain ⟨_, _, _, _, _, _, _, _, rfl, _⟩ := h; rfl)
      | (obtain ⟨_, _, _, _, _, _, _, _, _, rfl, _⟩ := h; rfl)
      | (obtain ⟨_, _, _, _, _, _, _, _, _, _, rfl, _⟩ := h; rfl)
      | (obtain ⟨_, _, _, _, _, _, _, _, _, _, _, rfl, _⟩ := h; rfl)
      | (obtain ⟨_, _, _, _, _, _, _, _, _, _, _, _, rfl, _⟩ := h; rfl)
      | (obtain ⟨_, _, _, _, _, _, _, _, _, _, _, _, _, rfl, _⟩ := h; rfl)
      | (obtain ⟨_, _, _, _, _, _, _, _, _, _, _, _, _, _, rfl, _⟩ := h; rfl)
      | (obtain ⟨_, _, _, _, _, _, _, _, _, _, _, _, _, _, _, rfl, _⟩ := h; rfl)
      | (obtain ⟨_, _, _, _, _, _, _, _, _, _, _, _, _, _, _, _, rfl, _⟩ := h; rfl)
      | (obtain ⟨_, _, _, _, _, _, _, _, _, _, _, _, _, _, _, _, _, rfl, _⟩ := h; rfl)
      | (obtain ⟨_, _, _, _, _, _, _, _, _, _, _, _, _, _, _, _, _, _, rfl, _⟩ := h; rfl)
      | (obtain ⟨_, _, _, _, _, _, _, _, _, _, _, _, _, _, _, _, _, _, _, rfl, _⟩ := h; rfl)
  · obtain ⟨a, RL, m, NL, rs, s, rfl, L, po, k⟩ := h
    obtain ⟨dx, ha⟩ := L.ins
    obtain ⟨xs, hR, da⟩ := L.rows
    have cl_Memory := T.cl_Memory
    have na_Memory_pairs := T.na_Memory_pairs
    have na_Memory_wide := T.na_Memory_wide
    have cl_Lone := T.cl_Lone
    have na_Lone_all_rows := T.na_Lone_all_rows
    have na_Lone_cells := T.na_Lone_cells
    have na_Lone_next_row := T.na_Lone_next_row
    have na_Lone_numbers := T.na_Lone_numbers
    have na_Lone_rested := T.na_Lone_rested
    have cl_Program := T.cl_Program
    have na_Program_own_rows := T.na_Program_own_rows
    have na_Program_own_size := T.na_Program_own_size
    refine ⟨_, (pss_one (ps_ret (pe_and (pe_cmpR (k_ne (K := K) rfl hr.r.units) (k_fld (K := K) rfl (pv 0) rfl) (pe_glob (v := V.int (-1)) rfl T.g_NO_ROW ⟨_, rfl⟩) (nomark _)) (pe_one (pe_cmpR (k_eq (K := K) rfl hr.r.units) (pe_ix (k_ix (K := K) rfl) (pe_ix (k_ix (K := K) rfl) (k_fld (K := K) rfl (pv 0) rfl) (k_fld (K := K) rfl (pv 0) rfl) (fun _ _ => rfl)) pe_int (fun _ _ => rfl)) (pe_glob (v := V.str "fork") rfl T.g_FORK ⟨_, rfl⟩) (nomark _)))))), ?_⟩
    dsimp only [cxOf, st_1, st_2, st_3, st_4, st_5, st_6, List.length_cons, List.length_nil, List.replicate_succ, List.replicate_zero, Nat.reduceAdd, Nat.reduceSub]
    walk_at "gs"
    refine i_decN (fun c => ?_) (fun c => ?_)
    · obtain ⟨i, ei, hi⟩ : ∃ i : Nat, s.place = i ∧ i < rs.length := po.resolve_left c
      obtain ⟨r, hr⟩ : ∃ r, rs[i]? = some r := ⟨_, List.getElem?_eq_getElem hi⟩
      obtain ⟨x, hx, hxd⟩ := dpa_get da (d := rowD r) (by rw [List.getElem?_map, hr]; rfl)
      have hat : atI xs s.place = some x := by
        rw [ei]
        exact atI_nat hx
      have e : atFork rs s = decide (r.1 = "fork") := by
        unfold atFork rowAt
        rw [if_neg c, ei, Int.toNat_natCast, hr]
      obtain ⟨t, ys, rfl, ht⟩ : ∃ t ys, x = .ref t ∧ SqT K H t (.str r.1 :: ys) := by
        cases hxd with
        | tup hs ha =>
          cases ha with
          | cons h1 h2 =>
            cases h1
            exact ⟨_, _, rfl, hs⟩
      have at0 : atI (V.str r.1 :: ys) 0 = some (.str r.1) := at_zero
      walk_at "gs"
      rw [e] at k
      exact k
    · have e : atFork rs s = false := by
        unfold atFork rowAt
        rw [if_pos c]
      rw [e] at k
      exact k

/-! ### what a row's numbers are -/
theorem fitc_inv {n size many : Int} (h : fitS "c" (.int n) size many = true) : 0 ≤ n ∧ n < size := by
  have e1 : ((Str.ofString "c") = (Str.ofString "n")) = False := by rw [eq_iff_iff]; decide +kernel
  unfold fitS limS at h
  simp only [e1, if_false, if_true] at h
  exact of_decide_eq_true h
theorem fitr_inv {n size many : Int} (h : fitS "r" (.int n) size many = true) : 0 ≤ n ∧ n ≤ many := by
  have e1 : ((Str.ofString "r") = (Str.ofString "n")) = False := by rw [eq_iff_iff]; decide +kernel
  have e2 : ((Str.ofString "r") = (Str.ofString "c")) = False := by rw [eq_iff_iff]; decide +kernel
  unfold fitS limS at h
  simp only [e1, e2, if_false, if_true] at h
  have := of_decide_eq_true h
  omega
theorem fitb_inv {s : Str} {n size many : Int} (hs : s = Str.ofString "b" ∨ s = Str.ofString "e") (h : fitS s (.int n) size many = true) : 0 ≤ n ∧ n ≤ size := by
  have e1 : (s = (Str.ofString "n")) = False := by rw [eq_iff_iff]; rcases hs with rfl | rfl <;> decide +kernel
  have e2 : (s = (Str.ofString "c")) = False := by rw [eq_iff_iff]; rcases hs with rfl | rfl <;> decide +kernel
  have e3 : (s = (Str.ofString "r")) = False := by rw [eq_iff_iff]; rcases hs with rfl | rfl <;> decide +kernel
  unfold fitS limS at h
  simp only [e1, e2, e3, if_false] at h
  have := of_decide_eq_true h
  omega
theorem row_inv {w s : Str} {es : List PyData} {size many : Int} (h : (w, s) ∈ kv_SHAPES) (r : rowOk (.tuple (.str w :: es)) size many = true) : es.length = (sgn s).length ∧ fitAll (sgn s) es size many = true ∧ (w = "fill" → leFill es = true) := by
  simp only [rowOk] at r
  rw [(kv_look h).1] at r
  simp only [rowTail, Bool.and_eq_true, decide_eq_true_eq, Bool.or_eq_true] at r
  obtain ⟨a, b, c⟩ := r
  exact ⟨a, b, fun e => c.resolve_left fun n => n e⟩
theorem fa_cons {s : Str} {a : PyData} {ss : List Str} {ds : List PyData} {size many : Int} (h : fitAll (s :: ss) (a :: ds) size many = true) : fitS s a size many = true ∧ fitAll ss ds size many = true := Bool.and_eq_true_iff.mp h
section
variable {w : Str} {ns : List Int} {size many : Int}
theorem inv_cn (h : (w, Str.ofString "cn") ∈ kv_SHAPES) (r : rowOk (rowD (w, ns)) size many = true) : ∃ c v, ns = [c, v] ∧ 0 ≤ c ∧ c < size := by
  obtain ⟨l, f, _⟩ := row_inv h r
  rw [sg_cn] at l f
  match ns, l with
  | [c, v], _ =>
    obtain ⟨a, _⟩ := fa_cons f
    exact ⟨c, v, rfl, fitc_inv a⟩
theorem inv_cc (h : (w, Str.ofString "cc") ∈ kv_SHAPES) (r : rowOk (rowD (w, ns)) size many = true) : ∃ c d, ns = [c, d] ∧ (0 ≤ c ∧ c < size) ∧ 0 ≤ d ∧ d < size := by
  obtain ⟨l, f, _⟩ := row_inv h r
  rw [sg_cc] at l f
  match ns, l with
  | [c, v], _ =>
    obtain ⟨a, f⟩ := fa_cons f
    obtain ⟨b, _⟩ := fa_cons f
    exact ⟨c, v, rfl, fitc_inv a, fitc_inv b⟩
theorem inv_c (h : (w, Str.ofString "c") ∈ kv_SHAPES) (r : rowOk (rowD (w, ns)) size many = true) : ∃ c, ns = [c] ∧ 0 ≤ c ∧ c < size := by
  obtain ⟨l, f, _⟩ := row_inv h r
  rw [sg_c] at l f
  match ns, l with
  | [c], _ =>
    obtain ⟨a, _⟩ := fa_cons f
    exact ⟨c, rfl, fitc_inv a⟩
theorem inv_r (h : (w, Str.ofString "r") ∈ kv_SHAPES) (r : rowOk (rowD (w, ns)) size many = true) : ∃ c, ns = [c] ∧ 0 ≤ c ∧ c ≤ many := by
  obtain ⟨l, f, _⟩ := row_inv h r
  rw [sg_r] at l f
  match ns, l with
  | [c], _ =>
    obtain ⟨a, _⟩ := fa_cons f
    exact ⟨c, rfl, fitr_inv a⟩
theorem inv_ccr (h : (w, Str.ofString "ccr") ∈ kv_SHAPES) (r : rowOk (rowD (w, ns)) size many = true) : ∃ c d g, ns = [c, d, g] ∧ (0 ≤ c ∧ c < size) ∧ (0 ≤ d ∧ d < size) ∧ 0 ≤ g ∧ g ≤ many := by
  obtain ⟨l, f, _⟩ := row_inv h r
  rw [sg_ccr] at l f
  match ns, l with
  | [c, v, g], _ =>
    obtain ⟨a, f⟩ := fa_cons f
    obtain ⟨b, f⟩ := fa_cons f
    obtain ⟨d, _⟩ := fa_cons f
    exact ⟨c, v, g, rfl, fitc_inv a, fitc_inv b, fitr_inv d⟩
theorem inv_bec (h : rowOk (rowD ("fill", ns)) size many = true) : ∃ b e c, ns = [b, e, c] ∧ 0 ≤ b ∧ b ≤ e ∧ e ≤ size ∧ 0 ≤ c ∧ c < size := by
  obtain ⟨l, f, g⟩ := row_inv (w := "fill") (s := Str.ofString "bec") (by decide +kernel) h
  have g := g rfl
  rw [sg_bec] at l f
  match ns, l with
  | [b, e, c], _ =>
    obtain ⟨a, f⟩ := fa_cons f
    obtain ⟨b2, f⟩ := fa_cons f
    obtain ⟨d, _⟩ := fa_cons f
    have a := fitb_inv (.inl rfl) a
    have b2 := fitb_inv (.inr rfl) b2
    have d := fitc_inv d
    have le : b ≤ e := of_decide_eq_true g
    exact ⟨b, e, c, rfl, a.1, le, b2.2, d.1, d.2⟩
theorem inv_0 (h : (w, Str.ofString "") ∈ kv_SHAPES) (r : rowOk (rowD (w, ns)) size many = true) : ns = [] := by
  obtain ⟨l, _, _⟩ := row_inv h r
  rw [sg_0] at l
  match ns, l with
  | [], _ => rfl
end

theorem cut2F {b e n : Int} (hbe : b ≤ e) : ∀ (ps : List (Int × Int)) (a : Int), 0 ≤ a → (∀ q ∈ ps, 0 < q.1) →
    (cutF 0 b a ps).length + (cutF e n a ps).length ≤ ps.length + (if a < b then 1 else 0)
  | [], a, _, _ => by
    show 0 + 0 ≤ _
    omega
  | p :: t, a, h0, hp => by
    have p0 := hp p List.mem_cons_self
    have ih := cut2F hbe (n := n) t (a + p.1) (by omega) fun q hq => hp q (List.mem_cons_of_mem _ hq)
    unfold cutF
    rw [List.length_append, List.length_append, List.length_cons]
    have c1 : (if max 0 a < min b (a + p.1) then [(min b (a + p.1) - max 0 a, p.2)] else []).length ≤ (if a < b then 1 else 0) := by
      split
      · rw [if_pos (by omega), List.length_singleton]
        omega
      · exact Nat.zero_le _
    have c2 : (if max e a < min n (a + p.1) then [(min n (a + p.1) - max e a, p.2)] else []).length + (if a + p.1 < b then 1 else 0) ≤ 1 := by
      split
      · rw [if_neg (by omega), List.length_singleton]
        omega
      · split <;> simp
    omega

theorem rle_fillV {cs : List Int} {b e v : Int} (h : 0 ≤ b ∧ b ≤ e ∧ e ≤ cs.length) : (rle (laid cs b.toNat (List.replicate (e - b).toNat v) e.toNat)).length ≤ (rle cs).length + 2 := by
  have e0 : cells [(e - b, v)] = List.replicate (e - b).toNat v := by rw [cells_cons, cells_nil, List.append_nil]
  rw [← e0, ← laid_rle]
  have k := cut2F (b := b) (e := e) (n := cs.length) (by omega) (rle cs) 0 (Int.le_refl _) (rle_pos cs)
  have j : ∀ l : List (Int × Int), (jnd l).length ≤ l.length := fun l => by
    rw [jnd_wr]
    exact wr_len l
  refine Nat.le_trans (j _) ?_
  rw [List.length_append, List.length_append, List.length_singleton]
  unfold cut
  have : (if (0 : Int) < b then 1 else 0) ≤ 1 := by split <;> omega
  omega

/-! ### what a row does -/
def getC (cs : List Int) (c : Int) : Int := cs.getD c.toNat 0
def setC (cs : List Int) (c v : Int) : List Int := laid cs c.toNat [v] (c + 1).toNat
def fillC (cs : List Int) (b e v : Int) : List Int := laid cs b.toNat (List.replicate (e - b).toNat v) e.toNat
def inC (cs : List Int) (c : Int) : Prop := 0 ≤ c ∧ c < cs.length
theorem getC_at {cs : List Int} {c : Int} (h : inC cs c) : ∃ i : Nat, c = i ∧ cs[i]? = some (getC cs c) := by
  obtain ⟨i, rfl⟩ := Int.eq_ofNat_of_zero_le h.1
  have hi : i < cs.length := by have := h.2; omega
  refine ⟨i, rfl, ?_⟩
  unfold getC
  rw [Int.toNat_natCast, List.getD_eq_getElem?_getD, List.getElem?_eq_getElem hi]
  rfl
/-- the cell that a cell leads to, or -1 -/
def goalS (cs : List Int) (c : Int) : Int := if 0 ≤ getC cs c ∧ getC cs c < cs.length then getC cs c else -1
def sp_lgoal (K : PySem.W.Frag) (CM CL : Addr) : Sp := fun vs H Q _ => ∃ (a RL m NL : Addr) (rs : List (Str × List Int)) (s : LS) (c : Int), vs = [.ref a, .int c] ∧ LoneAt K CM CL H a RL m NL rs s ∧ inC s.cs c ∧ (rle s.cs).length ≤ 10000 ∧
  ∀ H', Kp [] H H' → Q (.int (goalS s.cs c)) H'
theorem sc_Lone_goal_of : FnScope ["self", "cell", "found"] ["self", "cell"] (defScope s_Lone_goal_of) :=
  ⟨rfl, rfl, rfl, by decide +kernel, rfl, by decide +kernel, by decide +kernel⟩
theorem ok_Lone_goal_of {P : Program} {w : World} {K : PySem.W.Frag} {mg : Str → Option Value} {base : Heap} (T : Txt w K mg) :
    FnG P w K mg base 5 T.a_Lone_goal_of T.d_Lone_goal_of ["self", "cell"] (sp_lgoal K T.c_Memory T.c_Lone) := by
  refine okD T.F_Lone_goal_of sc_Lone_goal_of (fun vs H Q E h => ?_) (fun cdv A outer s H vs Q E hr h => ?_)
  · first
      | (obtain ⟨_, rfl, _⟩ := h; rfl)
      | (obtain ⟨_, _, rfl, _⟩ := h; rfl)
      | (obtain ⟨_, _, _, rfl, _⟩ := h; rfl)
      | (obtain ⟨_, _, _, _, rfl, _⟩ := h; rfl)
      | (obtain ⟨_, _, _, _, _, rfl, _⟩ := h; rfl)
      | (obtain ⟨_, _, _, _, _, _, rfl, _⟩ := h; rfl)
      | (obtain ⟨_, _, _, _, _, _, _, rfl, _⟩ := h; rfl)
      | (obtain ⟨_, _, _, _, _, _, _, _, rfl, _⟩ := h; rfl)
      | (obtain ⟨_, _, _, _, _, _, _, _, _, rfl, _⟩ := h; rfl)
      | (obtain ⟨_, _, _, _, _, _, _, _, _, _, rfl, _⟩ := h; rfl)
      | (obtain ⟨_, _, _, _, _, _, _, _, _, _, _, rfl, _⟩ := h; rfl)
      | (obtain ⟨_, _, _, _, _, _, _, _, _, _, _, _, rfl, _⟩ := h; rfl)
      | (obtain ⟨_, _, _, _, _, _, _, _, _, _, _, _, _, rfl, _⟩ := h; rfl)
      | (obtain ⟨_, _, _, _, _, _, _, _, _, _, _, _, _, _, rfl, _⟩ := h; rfl)
      | (obtain ⟨_, _, _, _, _, _, _, _, _, _, _, _, _, _, _, rfl, _⟩ := h; rfl)
      | (obtain ⟨_, _, _, _, _, _, _, _, _, _, _, _, _, _, _, _, rfl, _⟩ := h; rfl)
      | (obtain ⟨_, _, _, _, _, _, _, _, _, _, _, _, _, _, _, _, _, rfl, _⟩ := h; rfl)
      | (obtain ⟨_, _, _, _, _, _, _, _, _, _, _, _, _, _, _, _, _, _, rfl, _⟩ := h; rfl)
      | (obtain ⟨_, _, _, _, _, _, _, _, _, _, _, _, _, _, _, _, _, _, _, rfl, _⟩ := h; rfl)
  · obtain ⟨a, RL, m, NL, rs, s, c, rfl, L, ic, few, k⟩ := h
    obtain ⟨dx, ha⟩ := L.ins
    obtain ⟨dxm, lm, hm, ldm⟩ := id L.mem
    obtain ⟨i, rfl, hi⟩ := getC_at ic
    have cl_Memory := T.cl_Memory
    have na_Memory_pairs := T.na_Memory_pairs
    have na_Memory_wide := T.na_Memory_wide
    have cl_Lone := T.cl_Lone
    have na_Lone_all_rows := T.na_Lone_all_rows
    have na_Lone_cells := T.na_Lone_cells
    have na_Lone_next_row := T.na_Lone_next_row
    have na_Lone_numbers := T.na_Lone_numbers
    have na_Lone_rested := T.na_Lone_rested
    have cl_Program := T.cl_Program
    have na_Program_own_rows := T.na_Program_own_rows
    have na_Program_own_size := T.na_Program_own_size
    refine ⟨_, (pss_cons (ps_set (i := 2) sc_Lone_goal_of.nd rfl (Or.inl rfl) (dm T.cl_Memory T.me_Memory_at (ok_Memory_at T) (hr.mono (by decide)) T.b_Memory_at passL (k_fld (K := K) rfl (pv 0) rfl) (pa_cons (pv 1) pa_nil)))
      (pss_one (ps_ret (pe_ifExp (pt_chain op_le op_lt pe_int (pv 2) (dm0 T.cl_Memory T.me_Memory_size (ok_Memory_size T) (hr.mono (by decide)) T.b_Memory_size passL (k_fld (K := K) rfl (pv 0) rfl))) (pv 2) (pe_glob (v := V.int (-1)) rfl T.g_NO_ROW ⟨_, rfl⟩))))), ?_⟩
    dsimp only [cxOf, st_1, st_2, st_3, st_4, st_5, st_6, List.length_cons, List.length_nil, List.replicate_succ, List.replicate_zero, Nat.reduceAdd, Nat.reduceSub]
    walk_at "gs"
    refine ⟨m, i, s.cs, _, rfl, L.mem, few, hi, fun H1 k1 => ?_⟩
    have L1 := L.kp0 k1
    have ha1 := k1.at_ _ _ ha not_nil
    have hm1 := k1.at_ _ _ hm not_nil
    obtain ⟨g, eg⟩ : ∃ g, g = getC s.cs (i : Int) := ⟨_, rfl⟩
    rw [← eg]
    have e : goalS s.cs (i : Int) = if 0 ≤ g ∧ g < s.cs.length then g else -1 := by
      unfold goalS
      rw [← eg]
    rw [e] at k
    walk_at "gs"
    refine i_dec (fun g0 => ?_) (fun g0 => ?_)
    · walk_at "gs"
      refine ⟨m, s.cs, rfl, L1.mem, ?_⟩
      walk_at "gs"
      refine i_dec (fun g1 => ?_) (fun g1 => ?_)
      · rw [if_pos ⟨g0, g1⟩] at k
        walk_at "gs"
        exact k H1 k1
      · rw [if_neg (fun z => g1 z.2)] at k
        walk_at "gs"
        exact k H1 k1
    · rw [if_neg (fun z => g0 z.1)] at k
      walk_at "gs"
      exact k H1 k1
def changeS (w : Str) (ns : List Int) (s : LS) : LS :=
  if w = "put" then { s with cs := setC s.cs (ns.getD 0 0) (ns.getD 1 0) }
  else if w = "move" then { s with cs := setC s.cs (ns.getD 0 0) (getC s.cs (ns.getD 1 0)) }
  else if w = "add" then { s with cs := setC s.cs (ns.getD 0 0) (getC s.cs (ns.getD 0 0) + getC s.cs (ns.getD 1 0)) }
  else if w = "fill" then { s with cs := fillC s.cs (ns.getD 0 0) (ns.getD 1 0) (getC s.cs (ns.getD 2 0)) }
  else if w = "tell" then { s with told := s.told ++ [getC s.cs (ns.getD 0 0)] }
  else s
/-- the lone one's own things -/
def own3 (a m NL : Addr) : List Addr := [a, m, NL]
section
variable {K : PySem.W.Frag} {CM CL : Addr} {H H' : Hp} {a RL m NL : Addr} {rs : List (Str × List Int)} {s : LS}
theorem LoneAt.mR (h : LoneAt K CM CL H a RL m NL rs s) : RL ≠ m := fun e => by
  obtain ⟨dx, l, h1, _⟩ := h.mem
  obtain ⟨xs, h2, _⟩ := h.rows
  rw [e, h1] at h2
  cases h2
theorem LoneAt.mN (h : LoneAt K CM CL H a RL m NL rs s) : NL ≠ m := fun e => by
  obtain ⟨dx, l, h1, _⟩ := h.mem
  have h2 := h.nums
  rw [e, h1] at h2
  cases h2
/-- its memory written -/
theorem LoneAt.wr (h : LoneAt K CM CL H a RL m NL rs s) (no : CL ≠ CM) (k : Kp [m] H H') {cs : List Int} (M : MemAt K CM H' m cs) (of : ∀ b, Tr H b → Off H' m b) : LoneAt K CM CL H' a RL m NL rs { s with cs := cs } := by
  obtain ⟨dx, h1⟩ := h.ins
  obtain ⟨xs, h2, h3⟩ := h.rows
  exact ⟨⟨dx, k.at_ _ _ h1 (not_one (h.am no))⟩, ⟨xs, k.at_ _ _ h2 (not_one h.mR), dpa_imm k _ _ (rowsD_imm rs) h3⟩, M, k.at_ _ _ h.nums (not_one h.mN), of NL (tr_of h.nums), of RL (tr_of h2), h.ne⟩
/-- a number told -/
theorem LoneAt.tell (h : LoneAt K CM CL H a RL m NL rs s) {v : Int} : LoneAt K CM CL (upd H NL (.lst (s.told.map V.int ++ [V.int v]))) a RL m NL rs { s with told := s.told ++ [v] } := by
  obtain ⟨dx, h1⟩ := h.ins
  obtain ⟨xs, h2, h3⟩ := h.rows
  have k : Kp [NL] H (upd H NL (.lst (s.told.map V.int ++ [V.int v]))) := kp_set h.nums (fun z => z)
  have oth : Oth H m NL := oth_lst h.nums h.offN
  have nm : m ∉ [NL] := not_one (Ne.symm h.mN)
  exact ⟨⟨dx, k.at_ _ _ h1 (not_one (Ne.symm h.aN))⟩, ⟨xs, k.at_ _ _ h2 (not_one h.ne), dpa_imm k _ _ (rowsD_imm rs) h3⟩, mem_kp1 h.mem k oth, by rw [List.map_append]; exact upd_same, off_kp k (tr_mem h.mem) nm h.offN, off_kp k (tr_mem h.mem) nm h.offR, h.ne⟩
end
theorem own_m {a m NL : Addr} : ∀ b ∈ [m], b ∈ own3 a m NL := fun b h => by
  rw [List.mem_singleton.mp h]
  exact List.mem_cons_of_mem _ List.mem_cons_self
theorem own_n {a m NL : Addr} : ∀ b ∈ [NL], b ∈ own3 a m NL := fun b h => by
  rw [List.mem_singleton.mp h]
  exact List.mem_cons_of_mem _ (List.mem_cons_of_mem _ List.mem_cons_self)
theorem own_a {a m NL : Addr} : ∀ b ∈ [a], b ∈ own3 a m NL := fun b h => by
  rw [List.mem_singleton.mp h]
  exact List.mem_cons_self
def sp_lchange (K : PySem.W.Frag) (CM CL : Addr) : Sp := fun vs H Q _ => ∃ (a RL m NL Th : Addr) (rs : List (Str × List Int)) (s : LS) (w : Str) (ns : List Int) (many : Int), vs = [.ref a, .str w, .ref Th] ∧ CL ≠ CM ∧ LoneAt K CM CL H a RL m NL rs s ∧ H Th = some (.lst (ns.map V.int)) ∧
  rowOk (rowD (w, ns)) s.cs.length many = true ∧ (rle s.cs).length ≤ 10000 ∧ s.told.length ≤ 10000 ∧ ∀ H', Kp (own3 a m NL) H H' → LoneAt K CM CL H' a RL m NL rs (changeS w ns s) → Q .non H'
theorem sc_Lone_change : FnScope ["self", "word", "things", "cells"] ["self", "word", "things"] (defScope s_Lone_change) :=
  ⟨rfl, rfl, rfl, by decide +kernel, rfl, by decide +kernel, by decide +kernel⟩
theorem ok_Lone_change {P : Program} {w : World} {K : PySem.W.Frag} {mg : Str → Option Value} {base : Heap} (T : Txt w K mg) :
    FnG P w K mg base 5 T.a_Lone_change T.d_Lone_change ["self", "word", "things"] (sp_lchange K T.c_Memory T.c_Lone) := by
  refine okD T.F_Lone_change sc_Lone_change (fun vs H Q E h => ?_) (fun cdv A outer s H vs Q E hr h => ?_)
  · first
      | (obtain ⟨_, rfl, _⟩ := h; rfl)
      | (obtain ⟨_, _, rfl, _⟩ := h; rfl)
      | (obtain ⟨_, _, _, rfl, _⟩ := h; rfl)
      | (obtain ⟨_, _, _, _, rfl, _⟩ := h; rfl)
      | (obtain ⟨_, _, _, _, _, rfl, _⟩ := h; rfl)
      | (obtain ⟨_, _, _, _, _, _, rfl, _⟩ := h; rfl)
      | (obtain ⟨_, _, _, _, _, _, _, rfl, _⟩ := h; rfl)
      | (obtain ⟨_, _, _, _, _, _, _, _, rfl, _⟩ := h; rfl)
      | (obtain ⟨_, _, _, _, _, _, _, _, _, rfl, _⟩ := h; rfl)
      | (obtain ⟨_, _, _, _, _, _, _, _, _, _, rfl, _⟩ := h; rfl)
      | (obtain ⟨_, _, _, _, _, _, _, _, _, _, _, rfl, _⟩ := h; rfl)
      | (obtain ⟨_, _, _, _, _, _, _, _, _, _, _, _, rfl, _⟩ := h; rfl)
      | (obtain ⟨_, _, _, _, _, _, _, _, _, _, _, _, _, rfl, _⟩ := h; rfl)
      | (obtain ⟨_, _, _, _, _, _, _, _, _, _, _, _, _, _, rfl, _⟩ := h; rfl)
      | (obtain ⟨_, _, _, _, _, _, _, _, _, _, _, _, _, _, _, rfl, _⟩ := h; rfl)
      | (obtain ⟨_, _, _, _, _, _, _, _, _, _, _, _, _, _, _, _, rfl, _⟩ := h; rfl)
      | (obtain ⟨_, _, _, _, _, _, _, _, _, _, _, _, _, _, _, _, _, rfl, _⟩ := h; rfl)
      | (obtain ⟨_, _, _, _, _, _, _, _, _, _, _, _, _, _, _, _, _, _, rfl, _⟩ := h; rfl)
      | (obtain ⟨_, _, _, _, _, _, _, _, _, _, _, _, _, _, _, _, _, _, _, rfl, _⟩ := h; rfl)
  · obtain ⟨a, RL, m, NL, Th, rs, s, w, ns, many, rfl, no, L, hT, ok, few, tf, k⟩ := h
    obtain ⟨dx, ha⟩ := L.ins
    obtain ⟨dm0, lm0, hm0, _⟩ := id L.mem
    have cl_Memory := T.cl_Memory
    have na_Memory_pairs := T.na_Memory_pairs
    have na_Memory_wide := T.na_Memory_wide
    have cl_Lone := T.cl_Lone
    have na_Lone_all_rows := T.na_Lone_all_rows
    have na_Lone_cells := T.na_Lone_cells
    have na_Lone_next_row := T.na_Lone_next_row
    have na_Lone_numbers := T.na_Lone_numbers
    have na_Lone_rested := T.na_Lone_rested
    have cl_Program := T.cl_Program
    have na_Program_own_rows := T.na_Program_own_rows
    have na_Program_own_size := T.na_Program_own_size
    refine ⟨_, (pss_cons (ps_set (i := 3) sc_Lone_change.nd rfl (Or.inl rfl) (k_fld (K := K) rfl (pv 0) rfl))
      (pss_one (ps_if (pt_cmpR (k_eq (K := K) rfl hr.r.units) (pv 1) pe_str (nomark _)) (pss_one (ps_expr (dm T.cl_Memory T.me_Memory_put (ok_Memory_put T) (hr.mono (by decide)) T.b_Memory_put passL (pv 3) (pa_cons (pe_ix (k_ix (K := K) rfl) (pv 2) pe_int (fun _ _ => rfl)) (pa_cons (pe_ix (k_ix (K := K) rfl) (pv 2) pe_int (fun _ _ => rfl)) pa_nil))))) (pss_one (ps_if (pt_cmpR (k_eq (K := K) rfl hr.r.units) (pv 1) pe_str (nomark _)) (pss_one (ps_expr (dm T.cl_Memory T.me_Memory_put (ok_Memory_put T) (hr.mono (by decide)) T.b_Memory_put passL (pv 3) (pa_cons (pe_ix (k_ix (K := K) rfl) (pv 2) pe_int (fun _ _ => rfl)) (pa_cons (dm T.cl_Memory T.me_Memory_at (ok_Memory_at T) (hr.mono (by decide)) T.b_Memory_at passL (pv 3) (pa_cons (pe_ix (k_ix (K := K) rfl) (pv 2) pe_int (fun _ _ => rfl)) pa_nil)) pa_nil))))) (pss_one (ps_if (pt_cmpR (k_eq (K := K) rfl hr.r.units) (pv 1) pe_str (nomark _)) (pss_one (ps_expr (dm T.cl_Memory T.me_Memory_put (ok_Memory_put T) (hr.mono (by decide)) T.b_Memory_put passL (pv 3) (pa_cons (pe_ix (k_ix (K := K) rfl) (pv 2) pe_int (fun _ _ => rfl)) (pa_cons (pe_op (k_add (K := K) rfl) (dm T.cl_Memory T.me_Memory_at (ok_Memory_at T) (hr.mono (by decide)) T.b_Memory_at passL (pv 3) (pa_cons (pe_ix (k_ix (K := K) rfl) (pv 2) pe_int (fun _ _ => rfl)) pa_nil)) (dm T.cl_Memory T.me_Memory_at (ok_Memory_at T) (hr.mono (by decide)) T.b_Memory_at passL (pv 3) (pa_cons (pe_ix (k_ix (K := K) rfl) (pv 2) pe_int (fun _ _ => rfl)) pa_nil))) pa_nil))))) (pss_one (ps_if (pt_cmpR (k_eq (K := K) rfl hr.r.units) (pv 1) pe_str (nomark _)) (pss_one (ps_expr (dm T.cl_Memory T.me_Memory_fill (ok_Memory_fill T) (hr.mono (by decide)) T.b_Memory_fill passL (pv 3) (pa_cons (pe_ix (k_ix (K := K) rfl) (pv 2) pe_int (fun _ _ => rfl)) (pa_cons (pe_ix (k_ix (K := K) rfl) (pv 2) pe_int (fun _ _ => rfl)) (pa_cons (dm T.cl_Memory T.me_Memory_at (ok_Memory_at T) (hr.mono (by decide)) T.b_Memory_at passL (pv 3) (pa_cons (pe_ix (k_ix (K := K) rfl) (pv 2) pe_int (fun _ _ => rfl)) pa_nil)) pa_nil)))))) (pss_one (ps_if (pt_cmpR (k_eq (K := K) rfl hr.r.units) (pv 1) pe_str (nomark _)) (pss_one (ps_expr (pe_bm PySem.F.plainAttrs_list PySem.F.slot_list_append PySem.F.type_list_append mt_append (k_fld (K := K) rfl (pv 0) rfl) (pa_cons (dm T.cl_Memory T.me_Memory_at (ok_Memory_at T) (hr.mono (by decide)) T.b_Memory_at passL (pv 3) (pa_cons (pe_ix (k_ix (K := K) rfl) (pv 2) pe_int (fun _ _ => rfl)) pa_nil)) pa_nil)))) pss_nil))))))))))), ?_⟩
    dsimp only [cxOf, st_1, st_2, st_3, st_4, st_5, st_6, List.length_cons, List.length_nil, List.replicate_succ, List.replicate_zero, Nat.reduceAdd, Nat.reduceSub]
    walk_at "gs"
    refine i_dec (fun c1 => ?_) (fun c1 => ?_)
    · subst c1
      obtain ⟨c, v, rfl, hc⟩ := inv_cn (by decide +kernel) ok
      have e : changeS (Str.ofString "put") [c, v] s = { s with cs := setC s.cs c v } := by
        unfold changeS
        rw [if_pos rfl]
        rfl
      have at0 : atI [V.int c, V.int v] 0 = some (.int c) := atI_nat (j := 0) rfl
      have at1 : atI [V.int c, V.int v] 1 = some (.int v) := atI_nat (j := 1) rfl
      have hT : H Th = some (.lst [V.int c, V.int v]) := hT
      walk_at "gs"
      refine ⟨m, c, v, s.cs, rfl, L.mem, few, hc, fun H1 k1 M1 of1 => ?_⟩
      walk_at "gs"
      rw [e] at k
      exact k H1 (k1.mono own_m) (L.wr no k1 M1 of1)
    walk_at "gs"
    refine i_dec (fun c2 => ?_) (fun c2 => ?_)
    · subst c2
      obtain ⟨c, d, rfl, hc, hd⟩ := inv_cc (by decide +kernel) ok
      have e : changeS (Str.ofString "move") [c, d] s = { s with cs := setC s.cs c (getC s.cs d) } := by
        unfold changeS
        rw [if_neg c1, if_pos rfl]
        rfl
      have at0 : atI [V.int c, V.int d] 0 = some (.int c) := atI_nat (j := 0) rfl
      have at1 : atI [V.int c, V.int d] 1 = some (.int d) := atI_nat (j := 1) rfl
      have hT : H Th = some (.lst [V.int c, V.int d]) := hT
      obtain ⟨j, rfl, hj⟩ := getC_at (cs := s.cs) hd
      walk_at "gs"
      refine ⟨m, j, s.cs, _, rfl, L.mem, few, hj, fun H1 k1 => ?_⟩
      have L1 := L.kp0 k1
      obtain ⟨dm1, lm1, hm1, _⟩ := id L1.mem
      walk_at "gs"
      refine ⟨m, c, _, s.cs, rfl, L1.mem, few, hc, fun H2 k2 M2 of2 => ?_⟩
      walk_at "gs"
      rw [e] at k
      exact k H2 (Kp.trans k1.wide (k2.mono own_m)) (L1.wr no k2 M2 of2)
    walk_at "gs"
    refine i_dec (fun c3 => ?_) (fun c3 => ?_)
    · subst c3
      obtain ⟨c, d, rfl, hc, hd⟩ := inv_cc (by decide +kernel) ok
      have e : changeS (Str.ofString "add") [c, d] s = { s with cs := setC s.cs c (getC s.cs c + getC s.cs d) } := by
        unfold changeS
        rw [if_neg c1, if_neg c2, if_pos rfl]
        rfl
      have at0 : atI [V.int c, V.int d] 0 = some (.int c) := atI_nat (j := 0) rfl
      have at1 : atI [V.int c, V.int d] 1 = some (.int d) := atI_nat (j := 1) rfl
      have hT : H Th = some (.lst [V.int c, V.int d]) := hT
      obtain ⟨j, rfl, hj⟩ := getC_at (cs := s.cs) hd
      obtain ⟨i, rfl, hi⟩ := getC_at (cs := s.cs) hc
      walk_at "gs"
      refine ⟨m, i, s.cs, _, rfl, L.mem, few, hi, fun H1 k1 => ?_⟩
      have L1 := L.kp0 k1
      obtain ⟨dm1, lm1, hm1, _⟩ := id L1.mem
      have hT1 := k1.at_ _ _ hT not_nil
      have ha1 := k1.at_ _ _ ha not_nil
      walk_at "gs"
      refine ⟨m, j, s.cs, _, rfl, L1.mem, few, hj, fun H2 k2 => ?_⟩
      have L2' := L1.kp0 k2
      obtain ⟨dm2, lm2, hm2, _⟩ := id L2'.mem
      obtain ⟨da2, ha2⟩ := L2'.ins
      walk_at "gs"
      refine ⟨m, i, _, s.cs, rfl, L2'.mem, few, hc, fun H3 k3 M3 of3 => ?_⟩
      walk_at "gs"
      rw [e] at k
      exact k H3 (Kp.trans (Kp.trans k1 k2).wide (k3.mono own_m)) (L2'.wr no k3 M3 of3)
    walk_at "gs"
    refine i_dec (fun c4 => ?_) (fun c4 => ?_)
    · subst c4
      obtain ⟨b, f, c, rfl, hb, bf, hf, hc⟩ := inv_bec ok
      have e : changeS (Str.ofString "fill") [b, f, c] s = { s with cs := fillC s.cs b f (getC s.cs c) } := by
        unfold changeS
        rw [if_neg c1, if_neg c2, if_neg c3, if_pos rfl]
        rfl
      have at0 : atI [V.int b, V.int f, V.int c] 0 = some (.int b) := atI_nat (j := 0) rfl
      have at1 : atI [V.int b, V.int f, V.int c] 1 = some (.int f) := atI_nat (j := 1) rfl
      have at2 : atI [V.int b, V.int f, V.int c] 2 = some (.int c) := atI_nat (j := 2) rfl
      have hT : H Th = some (.lst [V.int b, V.int f, V.int c]) := hT
      obtain ⟨j, rfl, hj⟩ := getC_at (cs := s.cs) hc
      walk_at "gs"
      refine ⟨m, j, s.cs, _, rfl, L.mem, few, hj, fun H1 k1 => ?_⟩
      have L1 := L.kp0 k1
      obtain ⟨dm1, lm1, hm1, _⟩ := id L1.mem
      walk_at "gs"
      refine ⟨m, b, f, _, s.cs, rfl, L1.mem, few, ⟨hb, bf, hf⟩, fun H2 k2 M2 of2 => ?_⟩
      walk_at "gs"
      rw [e] at k
      exact k H2 (Kp.trans k1.wide (k2.mono own_m)) (L1.wr no k2 M2 of2)
    walk_at "gs"
    refine i_dec (fun c5 => ?_) (fun c5 => ?_)
    · subst c5
      obtain ⟨c, rfl, hc⟩ := inv_c (by decide +kernel) ok
      have e : changeS (Str.ofString "tell") [c] s = { s with told := s.told ++ [getC s.cs c] } := by
        unfold changeS
        rw [if_neg c1, if_neg c2, if_neg c3, if_neg c4, if_pos rfl]
        rfl
      have at0 : atI [V.int c] 0 = some (.int c) := atI_nat (j := 0) rfl
      have hT : H Th = some (.lst [V.int c]) := hT
      obtain ⟨j, rfl, hj⟩ := getC_at (cs := s.cs) hc
      have hN := L.nums
      walk_at "gs"
      refine ⟨m, j, s.cs, _, rfl, L.mem, few, hj, fun H1 k1 => ?_⟩
      have L1 := L.kp0 k1
      obtain ⟨dm1, lm1, hm1, _⟩ := id L1.mem
      have hN1 := L1.nums
      walk_at "gs"
      try refine i_app hN1 (small_sz (by rw [List.length_map]; omega)) ?_
      walk_at "gs"
      rw [e] at k
      exact k _ (Kp.trans k1.wide ((kp_set hN1 (fun z => z)).mono own_n)) L1.tell
    have e : changeS w ns s = s := by
      unfold changeS
      rw [if_neg c1, if_neg c2, if_neg c3, if_neg c4, if_neg c5]
    rw [e] at k
    exact k H Kp.refl L
theorem not_own3 {t a m NL : Addr} (h1 : t ≠ a) (h2 : t ≠ m) (h3 : t ≠ NL) : t ∉ own3 a m NL := fun h => by
  rcases List.mem_cons.mp h with h | h
  · exact h1 h
  rcases List.mem_cons.mp h with h | h
  · exact h2 h
  exact h3 (List.mem_singleton.mp h)
def leadS (w : Str) (ns : List Int) (s : LS) : Option LS :=
  if w = "from" then (if goalS s.cs (ns.getD 1 0) = -1 then none else some { s with cs := setC s.cs (ns.getD 0 0) (getC s.cs (goalS s.cs (ns.getD 1 0))) })
  else (if goalS s.cs (ns.getD 0 0) = -1 then none else some { s with cs := setC s.cs (goalS s.cs (ns.getD 0 0)) (getC s.cs (ns.getD 1 0)) })
theorem goal_in {cs : List Int} {c : Int} (h : goalS cs c ≠ -1) : inC cs (goalS cs c) := by
  unfold goalS at h ⊢
  split at h
  · rename_i g
    rw [if_pos g]
    exact g
  · exact absurd rfl h
def sp_llead (K : PySem.W.Frag) (CM CL : Addr) : Sp := fun vs H Q _ => ∃ (a RL m NL Th : Addr) (rs : List (Str × List Int)) (s : LS) (w : Str) (ns : List Int) (many : Int), vs = [.ref a, .str w, .ref Th] ∧ CL ≠ CM ∧ LoneAt K CM CL H a RL m NL rs s ∧ H Th = some (.lst (ns.map V.int)) ∧
  (w = "from" ∨ w = "into") ∧ rowOk (rowD (w, ns)) s.cs.length many = true ∧ (rle s.cs).length ≤ 10000 ∧ (leadS w ns s = none → ∀ H', Kp [] H H' → Q (.bl false) H') ∧ ∀ s', leadS w ns s = some s' → ∀ H', Kp (own3 a m NL) H H' → LoneAt K CM CL H' a RL m NL rs s' → Q (.bl true) H'
theorem sc_Lone_lead : FnScope ["self", "word", "things", "goal"] ["self", "word", "things"] (defScope s_Lone_lead) :=
  ⟨rfl, rfl, rfl, by decide +kernel, rfl, by decide +kernel, by decide +kernel⟩
theorem ok_Lone_lead {P : Program} {w : World} {K : PySem.W.Frag} {mg : Str → Option Value} {base : Heap} (T : Txt w K mg) :
    FnG P w K mg base 6 T.a_Lone_lead T.d_Lone_lead ["self", "word", "things"] (sp_llead K T.c_Memory T.c_Lone) := by
  refine okD T.F_Lone_lead sc_Lone_lead (fun vs H Q E h => ?_) (fun cdv A outer s H vs Q E hr h => ?_)
  · first
      | (obtain ⟨_, rfl, _⟩ := h; rfl)
      | (obtain ⟨_, _, rfl, _⟩ := h; rfl)
      | (obtain ⟨_, _, _, rfl, _⟩ := h; rfl)
      | (obtain ⟨_, _, _, _, rfl, _⟩ := h; rfl)
      | (obtain ⟨_, _, _, _, _, rfl, _⟩ := h; rfl)
      | (obtain ⟨_, _, _, _, _, _, rfl, _⟩ := h; rfl)
      | (obtain ⟨_, _, _, _, _, _, _, rfl, _⟩ := h; rfl)
      | (obtain ⟨_, _, _, _, _, _, _, _, rfl, _⟩ := h; rfl)
      | (obtain ⟨_, _, _, _, _, _, _, _, _, rfl, _⟩ := h; rfl)
      | (obtain ⟨_, _, _, _, _, _, _, _, _, _, rfl, _⟩ := h; rfl)
      | (obtain ⟨_, _, _, _, _, _, _, _, _, _, _, rfl, _⟩ := h; rfl)
      | (obtain ⟨_, _, _, _, _, _, _, _, _, _, _, _, rfl, _⟩ := h; rfl)
      | (obtain ⟨_, _, _, _, _, _, _, _, _, _, _, _, _, rfl, _⟩ := h; rfl)
      | (obtain ⟨_, _, _, _, _, _, _, _, _, _, _, _, _, _, rfl, _⟩ := h; rfl)
      | (obtain ⟨_, _, _, _, _, _, _, _, _, _, _, _, _, _, _, rfl, _⟩ := h; rfl)
      | (obtain ⟨_, _, _, _, _, _, _, _, _, _, _, _, _, _, _, _, rfl, _⟩ := h; rfl)
      | (obtain ⟨_, _, _, _, _, _, _, _, _, _, _, _, _, _, _, _, _, rfl, _⟩ := h; rfl)
      | (obtain ⟨_, _, _, _, _, _, _, _, _, _, _, _, _, _, _, _, _, _, rfl, _⟩ := h; rfl)
      | (obtain ⟨_, _, _, _, _, _, _, _, _, _, _, _, _, _, _, _, _, _, _, rfl, _⟩ := h; rfl)
  · obtain ⟨a, RL, m, NL, Th, rs, s, w, ns, many, rfl, no, L, hT, ww, ok, few, kN, kS⟩ := h
    obtain ⟨dx, ha⟩ := L.ins
    obtain ⟨dm0, lm0, hm0, _⟩ := id L.mem
    have cl_Memory := T.cl_Memory
    have na_Memory_pairs := T.na_Memory_pairs
    have na_Memory_wide := T.na_Memory_wide
    have cl_Lone := T.cl_Lone
    have na_Lone_all_rows := T.na_Lone_all_rows
    have na_Lone_cells := T.na_Lone_cells
    have na_Lone_next_row := T.na_Lone_next_row
    have na_Lone_numbers := T.na_Lone_numbers
    have na_Lone_rested := T.na_Lone_rested
    have cl_Program := T.cl_Program
    have na_Program_own_rows := T.na_Program_own_rows
    have na_Program_own_size := T.na_Program_own_size
    refine ⟨_, (pss_cons (ps_set (i := 3) sc_Lone_lead.nd rfl (Or.inl rfl) (dm T.cl_Lone T.me_Lone_goal_of (ok_Lone_goal_of T) (hr.mono (by decide)) T.b_Lone_goal_of passL (pv 0) (pa_cons (pe_ifExp (pt_cmpR (k_eq (K := K) rfl hr.r.units) (pv 1) pe_str (nomark _)) (pe_ix (k_ix (K := K) rfl) (pv 2) pe_int (fun _ _ => rfl)) (pe_ix (k_ix (K := K) rfl) (pv 2) pe_int (fun _ _ => rfl))) pa_nil)))
      (pss_cons (ps_if (pt_cmpR (k_eq (K := K) rfl hr.r.units) (pv 3) (pe_glob (v := V.int (-1)) rfl T.g_NO_ROW ⟨_, rfl⟩) (nomark _)) (pss_one (ps_ret pe_bl)) pss_nil)
      (pss_cons (ps_if (pt_cmpR (k_eq (K := K) rfl hr.r.units) (pv 1) pe_str (nomark _)) (pss_one (ps_expr (dm T.cl_Memory T.me_Memory_put (ok_Memory_put T) (hr.mono (by decide)) T.b_Memory_put passL (k_fld (K := K) rfl (pv 0) rfl) (pa_cons (pe_ix (k_ix (K := K) rfl) (pv 2) pe_int (fun _ _ => rfl)) (pa_cons (dm T.cl_Memory T.me_Memory_at (ok_Memory_at T) (hr.mono (by decide)) T.b_Memory_at passL (k_fld (K := K) rfl (pv 0) rfl) (pa_cons (pv 3) pa_nil)) pa_nil))))) (pss_one (ps_expr (dm T.cl_Memory T.me_Memory_put (ok_Memory_put T) (hr.mono (by decide)) T.b_Memory_put passL (k_fld (K := K) rfl (pv 0) rfl) (pa_cons (pv 3) (pa_cons (dm T.cl_Memory T.me_Memory_at (ok_Memory_at T) (hr.mono (by decide)) T.b_Memory_at passL (k_fld (K := K) rfl (pv 0) rfl) (pa_cons (pe_ix (k_ix (K := K) rfl) (pv 2) pe_int (fun _ _ => rfl)) pa_nil)) pa_nil))))))
      (pss_one (ps_ret pe_bl))))), ?_⟩
    dsimp only [cxOf, st_1, st_2, st_3, st_4, st_5, st_6, List.length_cons, List.length_nil, List.replicate_succ, List.replicate_zero, Nat.reduceAdd, Nat.reduceSub]
    obtain ⟨c, d, rfl, hc, hd⟩ : ∃ c d, ns = [c, d] ∧ inC s.cs c ∧ inC s.cs d := by
      rcases ww with rfl | rfl
      · exact inv_cc (by decide +kernel) ok
      · exact inv_cc (by decide +kernel) ok
    have at0 : atI [V.int c, V.int d] 0 = some (.int c) := atI_nat (j := 0) rfl
    have at1 : atI [V.int c, V.int d] 1 = some (.int d) := atI_nat (j := 1) rfl
    have hT : H Th = some (.lst [V.int c, V.int d]) := hT
    walk_at "gs"
    refine i_dec (fun cw => ?_) (fun cw => ?_)
    · subst cw
      walk_at "gs"
      refine ⟨a, RL, m, NL, rs, s, d, rfl, L, hd, few, fun H1 k1 => ?_⟩
      have L1 := L.kp0 k1
      obtain ⟨dm1, lm1, hm1, _⟩ := id L1.mem
      have hT1 := k1.at_ _ _ hT not_nil
      have ha1 := k1.at_ _ _ ha not_nil
      obtain ⟨g, eg⟩ : ∃ g, g = goalS s.cs d := ⟨_, rfl⟩
      have el : leadS (Str.ofString "from") [c, d] s = if g = -1 then none else some { s with cs := setC s.cs c (getC s.cs g) } := by
        unfold leadS
        rw [if_pos rfl, eg]
        rfl
      rw [← eg]
      walk_at "gs"
      refine i_dec (fun cg => ?_) (fun cg => ?_)
      · walk_at "gs"
        exact kN (by rw [el, if_pos cg]) H1 k1
      have ig : inC s.cs g := by
        rw [eg]
        exact goal_in (by rw [← eg]; exact cg)
      obtain ⟨j, hjg, hj⟩ := getC_at ig
      subst hjg
      walk_at "gs"
      refine i_dec (fun _ => ?_) (fun z => absurd rfl z)
      walk_at "gs"
      refine ⟨m, j, s.cs, _, rfl, L1.mem, few, hj, fun H2 k2 => ?_⟩
      have L2' := L1.kp0 k2
      obtain ⟨dm2, lm2, hm2, _⟩ := id L2'.mem
      obtain ⟨da2, ha2⟩ := L2'.ins
      walk_at "gs"
      refine ⟨m, c, _, s.cs, rfl, L2'.mem, few, hc, fun H3 k3 M3 of3 => ?_⟩
      walk_at "gs"
      exact kS _ (by rw [el, if_neg cg]; rfl) H3 (Kp.trans (Kp.trans k1 k2).wide (k3.mono own_m)) (L2'.wr no k3 M3 of3)
    · walk_at "gs"
      refine ⟨a, RL, m, NL, rs, s, c, rfl, L, hc, few, fun H1 k1 => ?_⟩
      have L1 := L.kp0 k1
      obtain ⟨dm1, lm1, hm1, _⟩ := id L1.mem
      have hT1 := k1.at_ _ _ hT not_nil
      have ha1 := k1.at_ _ _ ha not_nil
      obtain ⟨g, eg⟩ : ∃ g, g = goalS s.cs c := ⟨_, rfl⟩
      have el : leadS w [c, d] s = if g = -1 then none else some { s with cs := setC s.cs g (getC s.cs d) } := by
        unfold leadS
        rw [if_neg cw, eg]
        rfl
      rw [← eg]
      walk_at "gs"
      refine i_dec (fun cg => ?_) (fun cg => ?_)
      · walk_at "gs"
        exact kN (by rw [el, if_pos cg]) H1 k1
      have ig : inC s.cs g := by
        rw [eg]
        exact goal_in (by rw [← eg]; exact cg)
      obtain ⟨j, rfl, hj⟩ := getC_at (cs := s.cs) hd
      walk_at "gs"
      refine i_dec (fun z => absurd z cw) (fun _ => ?_)
      walk_at "gs"
      refine ⟨m, j, s.cs, _, rfl, L1.mem, few, hj, fun H2 k2 => ?_⟩
      have L2' := L1.kp0 k2
      obtain ⟨dm2, lm2, hm2, _⟩ := id L2'.mem
      obtain ⟨da2, ha2⟩ := L2'.ins
      walk_at "gs"
      refine ⟨m, g, _, s.cs, rfl, L2'.mem, few, ig, fun H3 k3 M3 of3 => ?_⟩
      walk_at "gs"
      exact kS _ (by rw [el, if_neg cg]; rfl) H3 (Kp.trans (Kp.trans k1 k2).wide (k3.mono own_m)) (L2'.wr no k3 M3 of3)
theorem dpa_intsV {K : PySem.W.Frag} {H : Hp} : ∀ {ns : List Int} {vs : List V}, DpAll K H vs (ns.map PyData.int) → vs = ns.map V.int
  | [], _, h => by cases h; rfl
  | n :: ns, _, h => by
    cases h with
    | cons h1 h2 =>
      cases h1
      rw [dpa_intsV h2]
      rfl
theorem dp_wrow {K : PySem.W.Frag} {H : Hp} {x : V} {w : Str} {ns : List Int} (h : Dp K H x (.tuple (.str w :: ns.map PyData.int))) : ∃ t, x = .ref t ∧ SqT K H t (.str w :: ns.map V.int) := by
  cases h with
  | tup hs ha =>
    cases ha with
    | cons h1 h2 =>
      cases h1
      rw [dpa_intsV h2] at hs
      exact ⟨_, rfl, hs⟩
theorem inV2 {w a b : Str} : inV (.str w) [V.str a, V.str b] = (decide (w = a) || decide (w = b)) := by
  unfold inV
  rw [List.any_cons, List.any_cons, List.any_nil, Bool.or_false]
  have e : ∀ x y : Str, eqV (.str x) (.str y) = decide (y = x) := fun x y => by
    unfold eqV
    by_cases c : y = x
    · subst c
      simp
    · rw [decide_eq_false c]
      exact beq_eq_false_iff_ne.mpr fun z => c z.symm
  rw [e, e]
def failS (s : LS) : LS := { s with place := -1, rest := "failed" }
/-- a row done that is no fork -/
def stepS (rs : List (Str × List Int)) (s : LS) : LS := match rowAt rs s with
  | none => s
  | some r => if r.1 = "less" ∨ r.1 = "same" then comeTo rs (if (getC s.cs (r.2.getD 0 0) < getC s.cs (r.2.getD 1 0) ∧ r.1 = "less") ∨ (getC s.cs (r.2.getD 0 0) = getC s.cs (r.2.getD 1 0) ∧ r.1 = "same") then (r.2.getD 2 0).toNat else s.place.toNat + 1) s
    else if r.1 = "fail" then failS s
    else if r.1 = "from" ∨ r.1 = "into" then (match leadS r.1 r.2 s with
      | none => failS s
      | some s' => comeTo rs (s.place.toNat + 1) s')
    else comeTo rs (s.place.toNat + 1) (changeS r.1 r.2 s)
theorem rle_setC {cs : List Int} {c v : Int} (h : inC cs c) : (rle (setC cs c v)).length ≤ (rle cs).length + 2 := by
  have := rle_fillV (cs := cs) (b := c) (e := c + 1) (v := v) ⟨h.1, by omega, by have := h.2; omega⟩
  rw [show (c + 1 - c).toNat = 1 by omega] at this
  exact this
theorem len_setC {cs : List Int} {c v : Int} (h : inC cs c) : (setC cs c v).length = cs.length := by
  have h1 := h.1
  have h2 := h.2
  exact laid_len (by omega) (by omega) (by rw [List.length_singleton]; omega)
theorem len_fillC {cs : List Int} {b e v : Int} (h : 0 ≤ b ∧ b ≤ e ∧ e ≤ cs.length) : (fillC cs b e v).length = cs.length :=
  laid_len (by omega) (by omega) (by rw [List.length_replicate]; omega)
theorem lead_keep {w : Str} {ns : List Int} {s s' : LS} {many : Int} (hw : w = "from" ∨ w = "into") (ok : rowOk (rowD (w, ns)) s.cs.length many = true) (h : leadS w ns s = some s') :
    s'.cs.length = s.cs.length ∧ (rle s'.cs).length ≤ (rle s.cs).length + 2 ∧ s'.told = s.told ∧ s'.place = s.place := by
  obtain ⟨c, d, rfl, hc, hd⟩ : ∃ c d, ns = [c, d] ∧ inC s.cs c ∧ inC s.cs d := by
    rcases hw with rfl | rfl
    · exact inv_cc (by decide +kernel) ok
    · exact inv_cc (by decide +kernel) ok
  unfold leadS at h
  split at h
  · split at h
    · cases h
    · injection h with h
      subst h
      exact ⟨len_setC hc, rle_setC hc, rfl, rfl⟩
  · split at h
    · cases h
    · rename_i g
      injection h with h
      subst h
      exact ⟨len_setC (goal_in g), rle_setC (goal_in g), rfl, rfl⟩
def sp_lstep (K : PySem.W.Frag) (CM CL : Addr) : Sp := fun vs H Q _ => ∃ (a RL m NL : Addr) (rs : List (Str × List Int)) (s : LS) (i : Nat), vs = [.ref a] ∧ CL ≠ CM ∧ LoneAt K CM CL H a RL m NL rs s ∧ s.place = i ∧ i < rs.length ∧ atFork rs s = false ∧
  (∀ r ∈ rs, SeqAt.shaped (rowD r) = true ∧ (r.1 = "done" → r.2 = []) ∧ rowOk (rowD r) s.cs.length rs.length = true) ∧ (rle s.cs).length ≤ 9990 ∧ s.told.length ≤ 9990 ∧ ∀ H', Kp (own3 a m NL) H H' → LoneAt K CM CL H' a RL m NL rs (stepS rs s) → Q .non H'
theorem sc_Lone_step : FnScope ["self", "word", "things", "behind", "one", "other"] ["self"] (defScope s_Lone_step) :=
  ⟨rfl, rfl, rfl, by decide +kernel, rfl, by decide +kernel, by decide +kernel⟩
theorem ok_Lone_step {P : Program} {w : World} {K : PySem.W.Frag} {mg : Str → Option Value} {base : Heap} (T : Txt w K mg) :
    FnG P w K mg base 7 T.a_Lone_step T.d_Lone_step ["self"] (sp_lstep K T.c_Memory T.c_Lone) := by
  refine okD T.F_Lone_step sc_Lone_step (fun vs H Q E h => ?_) (fun cdv A outer s H vs Q E hr h => ?_)
  · first
      | (obtain ⟨_, rfl, _⟩ := h; rfl)
      | (obtain ⟨_, _, rfl, _⟩ := h; rfl)
      | (obtain ⟨_, _, _, rfl, _⟩ := h; rfl)
      | (obtain ⟨_, _, _, _, rfl, _⟩ := h; rfl)
      | (obtain ⟨_, _, _, _, _, rfl, _⟩ := h; rfl)
      | (obtain ⟨_, _, _, _, _, _, rfl, _⟩ := h; rfl)
      | (obtain ⟨_, _, _, _, _, _, _, rfl, _⟩ := h; rfl)
      | (obtain ⟨_, _, _, _, _, _, _, _, rfl, _⟩ := h; rfl)
      | (obtain ⟨_, _, _, _, _, _, _, _, _, rfl, _⟩ := h; rfl)
      | (obtain ⟨_, _, _, _, _, _, _, _, _, _, rfl, _⟩ := h; rfl)
      | (obtain ⟨_, _, _, _, _, _, _, _, _, _, _, rfl, _⟩ := h; rfl)
      | (obtain ⟨_, _, _, _, _, _, _, _, _, _, _, _, rfl, _⟩ := h; rfl)
      | (obtain ⟨_, _, _, _, _, _, _, _, _, _, _, _, _, rfl, _⟩ := h; rfl)
      | (obtain ⟨_, _, _, _, _, _, _, _, _, _, _, _, _, _, rfl, _⟩ := h; rfl)
      | (obtain ⟨_, _, _, _, _, _, _, _, _, _, _, _, _, _, _, rfl, _⟩ := h; rfl)
      | (obtain ⟨_, _, _, _, _, _, _, _, _, _, _, _, _, _, _, _, rfl, _⟩ := h; rfl)
      | (obtain ⟨_, _, _, _, _, _, _, _, _, _, _, _, _, _, _, _, _, rfl, _⟩ := h; rfl)
      | (obtain ⟨_, _, _, _, _, _, _, _, _, _, _, _, _, _, _, _, _, _, rfl, _⟩ := h; rfl)
      | (obtain ⟨_, _, _, _, _, _, _, _, _, _, _, _, _, _, _, _, _, _, _, rfl, _⟩ := h; rfl)
  · obtain ⟨a, RL, m, NL, rs, s, i, rfl, no, L, ei, hi, nf, ok, few0, tf0, k⟩ := h
    have few : (rle s.cs).length ≤ 10000 := by omega
    have tf : s.told.length ≤ 10000 := by omega
    obtain ⟨dx, ha⟩ := L.ins
    obtain ⟨xs, hR, da⟩ := L.rows
    obtain ⟨r, hrw⟩ : ∃ r, rs[i]? = some r := ⟨_, List.getElem?_eq_getElem hi⟩
    have hrm := List.mem_of_getElem? hrw
    obtain ⟨x, hx, hxd⟩ := dpa_get da (d := rowD r) (by rw [List.getElem?_map, hrw]; rfl)
    have hat : atI xs s.place = some x := by
      rw [ei]
      exact atI_nat hx
    have er : rowAt rs s = some r := by
      unfold rowAt
      rw [if_neg (by rw [ei]; omega), ei, Int.toNat_natCast, hrw]
    have cl_Memory := T.cl_Memory
    have na_Memory_pairs := T.na_Memory_pairs
    have na_Memory_wide := T.na_Memory_wide
    have cl_Lone := T.cl_Lone
    have na_Lone_all_rows := T.na_Lone_all_rows
    have na_Lone_cells := T.na_Lone_cells
    have na_Lone_next_row := T.na_Lone_next_row
    have na_Lone_numbers := T.na_Lone_numbers
    have na_Lone_rested := T.na_Lone_rested
    have cl_Program := T.cl_Program
    have na_Program_own_rows := T.na_Program_own_rows
    have na_Program_own_size := T.na_Program_own_size
    refine ⟨_, (pss_cons (ps_asg (pe_ix (k_ix (K := K) rfl) (k_fld (K := K) rfl (pv 0) rfl) (k_fld (K := K) rfl (pv 0) rfl) (fun _ _ => rfl)) (k_gstar (K := K) rfl rfl (pgs_cons (pg_name (i := 1) sc_Lone_step.nd rfl (Or.inl rfl)) (pgs_star (pg_name (i := 2) sc_Lone_step.nd rfl (Or.inl rfl)) pgs_nil))))
      (pss_cons (ps_set (i := 3) sc_Lone_step.nd rfl (Or.inl rfl) (pe_op (k_add (K := K) rfl) (k_fld (K := K) rfl (pv 0) rfl) pe_int))
      (pss_one (ps_if (pt_cmpR (k_in (K := K) rfl) (pv 1) (pe_tup (pa_cons pe_str (pa_cons pe_str pa_nil))) (rfl)) (pss_cons (ps_par (i := 4) (j := 5) (by rfl) sc_Lone_step.nd rfl rfl (by decide) rfl rfl (pa_cons (dm T.cl_Memory T.me_Memory_at (ok_Memory_at T) (hr.mono (by decide)) T.b_Memory_at passL (k_fld (K := K) rfl (pv 0) rfl) (pa_cons (pe_ix (k_ix (K := K) rfl) (pv 2) pe_int (fun _ _ => rfl)) pa_nil)) (pa_cons (dm T.cl_Memory T.me_Memory_at (ok_Memory_at T) (hr.mono (by decide)) T.b_Memory_at passL (k_fld (K := K) rfl (pv 0) rfl) (pa_cons (pe_ix (k_ix (K := K) rfl) (pv 2) pe_int (fun _ _ => rfl)) pa_nil)) pa_nil)) (by rfl))
      (pss_one (ps_expr (dm T.cl_Lone T.me_Lone_come_to (ok_Lone_come_to T) (hr.mono (by decide)) T.b_Lone_come_to passL (pv 0) (pa_cons (pe_ifExp (PW.pt (pw_or (PW.pt (pw_and (pt_cmpR op_lt (pv 4) (pv 5) (nomark _)) (pw_and1 (pt_cmpR (k_eq (K := K) rfl hr.r.units) (pv 1) pe_str (nomark _))))) (pw_or1 (PW.pt (pw_and (pt_cmpR (k_eq (K := K) rfl hr.r.units) (pv 4) (pv 5) (nomark _)) (pw_and1 (pt_cmpR (k_eq (K := K) rfl hr.r.units) (pv 1) pe_str (nomark _)))))))) (pe_ix (k_ix (K := K) rfl) (pv 2) pe_int (fun _ _ => rfl)) (pv 3)) pa_nil))))) (pss_one (ps_if (PW.pt (pw_or (pt_cmpR (k_eq (K := K) rfl hr.r.units) (pv 1) pe_str (nomark _)) (pw_or1 (PW.pt (pw_and (pt_cmpR (k_in (K := K) rfl) (pv 1) (pe_tup (pa_cons pe_str (pa_cons pe_str pa_nil))) (rfl)) (pw_and1 (pt_not (pt_val (dm T.cl_Lone T.me_Lone_lead (ok_Lone_lead T) (hr.mono (by decide)) T.b_Lone_lead passL (pv 0) (pa_cons (pv 1) (pa_cons (pv 2) pa_nil))))))))))) (pss_one (ps_expr (dm T.cl_Lone T.me_Lone_rest (ok_Lone_rest T) (hr.mono (by decide)) T.b_Lone_rest passL (pv 0) (pa_cons (pe_glob (v := V.str "failed") rfl T.g_FAILED ⟨_, rfl⟩) pa_nil)))) (pss_cons (ps_expr (dm T.cl_Lone T.me_Lone_change (ok_Lone_change T) (hr.mono (by decide)) T.b_Lone_change passL (pv 0) (pa_cons (pv 1) (pa_cons (pv 2) pa_nil))))
      (pss_one (ps_expr (dm T.cl_Lone T.me_Lone_come_to (ok_Lone_come_to T) (hr.mono (by decide)) T.b_Lone_come_to passL (pv 0) (pa_cons (pv 3) pa_nil))))))))))), ?_⟩
    dsimp only [cxOf, st_1, st_2, st_3, st_4, st_5, st_6, List.length_cons, List.length_nil, List.replicate_succ, List.replicate_zero, Nat.reduceAdd, Nat.reduceSub]
    obtain ⟨w, ns⟩ := r
    obtain ⟨t, rfl, ht⟩ := dp_wrow hxd
    obtain ⟨shr, dnr, okr⟩ := ok (w, ns) hrm
    have few3 : ns.length ≤ 3 := by
      have key : w ∈ kv_SHAPES.map (·.1) := by
        refine Decidable.by_contra fun c => ?_
        have := okr
        simp only [rowD, rowOk] at this
        rw [kv_none c] at this
        cases this
      obtain ⟨sg, hsg⟩ := kv_some key
      obtain ⟨l, _, _⟩ := row_inv hsg okr
      have := (kv_look hsg).2.2.1
      simp only [List.length_map] at l
      omega
    walk_at "gs"
    refine i_star (a := t) (x := .str w) (xs := ns.map V.int) (.inl ht) (by rw [List.length_map]; omega) fun Th fTh => ?_
    have kT : Kp [] H (upd H Th (.lst (ns.map V.int))) := Kp.new fTh
    have hT : (upd H Th (.lst (ns.map V.int))) Th = some (.lst (ns.map V.int)) := upd_same
    obtain ⟨H1, e1⟩ : ∃ H1, H1 = upd H Th (.lst (ns.map V.int)) := ⟨_, rfl⟩
    have hTa : Th ≠ a := (fr_ne ha fTh).symm
    have hTm : Th ≠ m := by
      obtain ⟨dm, lm, hm, _⟩ := id L.mem
      exact (fr_ne hm fTh).symm
    have hTn : Th ≠ NL := (fr_ne L.nums fTh).symm
    show gCons _ _ _ _ (upd H Th (.lst (ns.map V.int))) _
    rw [← e1] at kT hT ⊢
    have L1 := L.kp0 kT
    obtain ⟨dx1, ha1⟩ := L1.ins
    obtain ⟨dm1, lm1, hm1, _⟩ := id L1.mem
    have nfw : w ≠ "fork" := by
      have := nf
      unfold atFork at this
      rw [er] at this
      exact of_decide_eq_false this
    walk_at "gs"
    refine i_new fun tt ftt => ?_
    have kt2 : Kp [] H1 (upd H1 tt (.tup [V.str (Str.ofString "less"), V.str (Str.ofString "same")])) := Kp.new ftt
    have htt : SqT K (upd H1 tt (.tup [V.str (Str.ofString "less"), V.str (Str.ofString "same")])) tt [V.str (Str.ofString "less"), V.str (Str.ofString "same")] := SqT.of upd_same
    obtain ⟨H2, e2⟩ : ∃ H2, H2 = upd H1 tt (.tup [V.str (Str.ofString "less"), V.str (Str.ofString "same")]) := ⟨_, rfl⟩
    rw [← e2] at kt2 htt ⊢
    have L2' := L1.kp0 kt2
    have hT2 := kt2.at_ _ _ hT not_nil
    obtain ⟨dx2, ha2⟩ := L2'.ins
    obtain ⟨dm2, lm2, hm2, _⟩ := id L2'.mem
    have k02 := Kp.trans kT kt2
    walk_at "gs"
    refine ⟨tt, _, rfl, .inr htt, rfl, rfl, ?_⟩
    simp only [Bool.false_eq_true, if_false]
    rw [inV2]
    walk_at "gs"
    refine i_bool2 (fun cls => ?_) (fun cls => ?_)
    · have hw2 : w = Str.ofString "less" ∨ w = Str.ofString "same" := by simpa using cls
      have mem : (w, Str.ofString "ccr") ∈ kv_SHAPES := by rcases hw2 with rfl | rfl <;> decide +kernel
      obtain ⟨c, d, g, rfl, hc, hd, hg⟩ := inv_ccr mem okr
      have at0 : atI [V.int c, V.int d, V.int g] 0 = some (.int c) := atI_nat (j := 0) rfl
      have at1 : atI [V.int c, V.int d, V.int g] 1 = some (.int d) := atI_nat (j := 1) rfl
      have at2 : atI [V.int c, V.int d, V.int g] 2 = some (.int g) := atI_nat (j := 2) rfl
      have hT2 : H2 Th = some (.lst [V.int c, V.int d, V.int g]) := hT2
      obtain ⟨A, eA⟩ : ∃ A, A = getC s.cs c := ⟨_, rfl⟩
      obtain ⟨B, eB⟩ : ∃ B, B = getC s.cs d := ⟨_, rfl⟩
      have est : stepS rs s = comeTo rs (if (A < B ∧ w = Str.ofString "less") ∨ (A = B ∧ w = Str.ofString "same") then g.toNat else s.place.toNat + 1) s := by
        unfold stepS
        rw [er]
        simp only
        rw [if_pos hw2, eA, eB]
        rfl
      obtain ⟨j1, ej1, hj1⟩ := getC_at (cs := s.cs) hc
      obtain ⟨j2, ej2, hj2⟩ := getC_at (cs := s.cs) hd
      walk_at "gs"
      refine ⟨m, j1, s.cs, _, by rw [ej1], L2'.mem, few, hj1, fun H3 k3 => ?_⟩
      rw [← eA]
      have L3 := L2'.kp0 k3
      have hT3 := k3.at_ _ _ hT2 not_nil
      obtain ⟨dx3, ha3⟩ := L3.ins
      obtain ⟨dm3, lm3, hm3, _⟩ := id L3.mem
      walk_at "gs"
      refine ⟨m, j2, s.cs, _, by rw [ej2], L3.mem, few, hj2, fun H4 k4 => ?_⟩
      rw [← eB]
      have L4 := L3.kp0 k4
      have hT4 := k4.at_ _ _ hT3 not_nil
      obtain ⟨dx4, ha4⟩ := L4.ins
      have k04 := Kp.trans k02 (Kp.trans k3 k4)
      walk_at "gs"
      refine i_dec (fun lt => ?_) (fun lt => ?_)
      · walk_at "gs"
        refine i_dec (fun wl => ?_) (fun wl => ?_)
        · walk_at "gs"
          refine ⟨a, RL, m, NL, rs, s, g.toNat, by rw [Int.toNat_of_nonneg hg.1], no, L4, by omega, fun r hr2 => (ok r hr2).1, fun r hr2 => (ok r hr2).2.1, fun H' k' L' => ?_⟩
          walk_at "gs"
          exact k H' (Kp.trans k04.wide (k'.mono own_a)) (by rw [est, if_pos (.inl ⟨lt, wl⟩)]; exact L')
        · walk_at "gs"
          refine i_dec (fun eq => ?_) (fun eq => ?_)
          · omega
          · walk_at "gs"
            refine ⟨a, RL, m, NL, rs, s, i + 1, by rw [ei]; rfl, no, L4, by omega, fun r hr2 => (ok r hr2).1, fun r hr2 => (ok r hr2).2.1, fun H' k' L' => ?_⟩
            walk_at "gs"
            exact k H' (Kp.trans k04.wide (k'.mono own_a)) (by rw [est, if_neg (fun z => z.elim (fun y => wl y.2) (fun y => eq y.1)), ei, Int.toNat_natCast]; exact L')
      · walk_at "gs"
        refine i_dec (fun eq => ?_) (fun eq => ?_)
        · walk_at "gs"
          refine i_dec (fun ws => ?_) (fun ws => ?_)
          · walk_at "gs"
            refine ⟨a, RL, m, NL, rs, s, g.toNat, by rw [Int.toNat_of_nonneg hg.1], no, L4, by omega, fun r hr2 => (ok r hr2).1, fun r hr2 => (ok r hr2).2.1, fun H' k' L' => ?_⟩
            walk_at "gs"
            exact k H' (Kp.trans k04.wide (k'.mono own_a)) (by rw [est, if_pos (.inr ⟨eq, ws⟩)]; exact L')
          · walk_at "gs"
            refine ⟨a, RL, m, NL, rs, s, i + 1, by rw [ei]; rfl, no, L4, by omega, fun r hr2 => (ok r hr2).1, fun r hr2 => (ok r hr2).2.1, fun H' k' L' => ?_⟩
            walk_at "gs"
            exact k H' (Kp.trans k04.wide (k'.mono own_a)) (by rw [est, if_neg (fun z => z.elim (fun y => lt y.1) (fun y => ws y.2)), ei, Int.toNat_natCast]; exact L')
        · walk_at "gs"
          refine ⟨a, RL, m, NL, rs, s, i + 1, by rw [ei]; rfl, no, L4, by omega, fun r hr2 => (ok r hr2).1, fun r hr2 => (ok r hr2).2.1, fun H' k' L' => ?_⟩
          walk_at "gs"
          exact k H' (Kp.trans k04.wide (k'.mono own_a)) (by rw [est, if_neg (fun z => z.elim (fun y => lt y.1) (fun y => eq y.1)), ei, Int.toNat_natCast]; exact L')
    · have nls : ¬ (w = Str.ofString "less" ∨ w = Str.ofString "same") := by
        intro z
        rcases z with rfl | rfl
        · simp at cls
        · simp at cls
      have est : stepS rs s = if w = Str.ofString "fail" then failS s else if w = Str.ofString "from" ∨ w = Str.ofString "into" then (match leadS w ns s with
          | none => failS s
          | some s' => comeTo rs (s.place.toNat + 1) s') else comeTo rs (s.place.toNat + 1) (changeS w ns s) := by
        unfold stepS
        rw [er]
        simp only
        rw [if_neg nls]
      walk_at "gs"
      refine i_dec (fun cf => ?_) (fun cf => ?_)
      · walk_at "gs"
        refine ⟨a, RL, m, NL, rs, s, "failed", rfl, no, L2', fun H' k' L' => ?_⟩
        walk_at "gs"
        exact k H' (Kp.trans k02.wide (k'.mono own_a)) (by rw [est, if_pos cf]; exact L')
      walk_at "gs"
      refine i_new fun t3 ft3 => ?_
      have kt3 : Kp [] H2 (upd H2 t3 (.tup [V.str (Str.ofString "from"), V.str (Str.ofString "into")])) := Kp.new ft3
      have ht3 : SqT K (upd H2 t3 (.tup [V.str (Str.ofString "from"), V.str (Str.ofString "into")])) t3 [V.str (Str.ofString "from"), V.str (Str.ofString "into")] := SqT.of upd_same
      obtain ⟨H3, e3⟩ : ∃ H3, H3 = upd H2 t3 (.tup [V.str (Str.ofString "from"), V.str (Str.ofString "into")]) := ⟨_, rfl⟩
      rw [← e3] at kt3 ht3 ⊢
      have L3 := L2'.kp0 kt3
      have hT3 := kt3.at_ _ _ hT2 not_nil
      obtain ⟨dx3, ha3⟩ := L3.ins
      have k03 := Kp.trans k02 kt3
      walk_at "gs"
      refine ⟨t3, _, rfl, .inr ht3, rfl, rfl, ?_⟩
      simp only [Bool.false_eq_true, if_false]
      rw [inV2]
      walk_at "gs"
      refine i_bool2 (fun cfi => ?_) (fun cfi => ?_)
      · have hw2 : w = Str.ofString "from" ∨ w = Str.ofString "into" := by simpa using cfi
        have est2 : stepS rs s = match leadS w ns s with
            | none => failS s
            | some s' => comeTo rs (s.place.toNat + 1) s' := by rw [est, if_neg cf, if_pos hw2]
        walk_at "gs"
        refine ⟨a, RL, m, NL, Th, rs, s, w, ns, rs.length, rfl, no, L3, hT3, hw2, okr, few, fun ln H4 k4 => ?_, fun s' ls H4 k4 L4 => ?_⟩
        · have L4 := L3.kp0 k4
          obtain ⟨dx4, ha4⟩ := L4.ins
          walk_at "gs"
          refine ⟨a, RL, m, NL, rs, s, "failed", rfl, no, L4, fun H' k' L' => ?_⟩
          walk_at "gs"
          exact k H' (Kp.trans (Kp.trans k03 k4).wide (k'.mono own_a)) (by rw [est2, ln]; exact L')
        · obtain ⟨kl, kr, kt', _⟩ := lead_keep hw2 okr ls
          have hT4 := k4.at_ _ _ hT3 (not_own3 hTa hTm hTn)
          have cz : changeS w ns s' = s' := by
            unfold changeS
            rcases hw2 with rfl | rfl
            · rw [if_neg (by decide +kernel), if_neg (by decide +kernel), if_neg (by decide +kernel), if_neg (by decide +kernel), if_neg (by decide +kernel)]
            · rw [if_neg (by decide +kernel), if_neg (by decide +kernel), if_neg (by decide +kernel), if_neg (by decide +kernel), if_neg (by decide +kernel)]
          obtain ⟨dx4, ha4⟩ := L4.ins
          refine ⟨true, rfl, ?_⟩
          simp only [Bool.not_true, Bool.false_eq_true, if_false]
          walk_at "gs"
          refine ⟨a, RL, m, NL, Th, rs, s', w, ns, rs.length, rfl, no, L4, hT4, by rw [kl]; exact okr, by omega, by rw [kt']; omega, fun H5 k5 L5 => ?_⟩
          rw [cz] at L5
          obtain ⟨dx5, ha5⟩ := L5.ins
          walk_at "gs"
          refine ⟨a, RL, m, NL, rs, s', i + 1, by rw [ei]; rfl, no, L5, by omega, fun r hr2 => (ok r hr2).1, fun r hr2 => (ok r hr2).2.1, fun H' k' L' => ?_⟩
          walk_at "gs"
          exact k H' (Kp.trans (Kp.trans (Kp.trans k03.wide k4) k5) (k'.mono own_a)) (by rw [est2, ls, ei, Int.toNat_natCast]; exact L')
      · have nfi : ¬ (w = Str.ofString "from" ∨ w = Str.ofString "into") := by
          intro z
          rcases z with rfl | rfl
          · simp at cfi
          · simp at cfi
        walk_at "gs"
        refine ⟨a, RL, m, NL, Th, rs, s, w, ns, rs.length, rfl, no, L3, hT3, okr, few, tf, fun H5 k5 L5 => ?_⟩
        obtain ⟨dx5, ha5⟩ := L5.ins
        walk_at "gs"
        refine ⟨a, RL, m, NL, rs, changeS w ns s, i + 1, by rw [ei]; rfl, no, L5, by omega, fun r hr2 => (ok r hr2).1, fun r hr2 => (ok r hr2).2.1, fun H' k' L' => ?_⟩
        walk_at "gs"
        exact k H' (Kp.trans (Kp.trans k03.wide k5) (k'.mono own_a)) (by rw [est, if_neg cf, if_neg nfi, ei, Int.toNat_natCast]; exact L')

/-! ### one made, one parted -/
theorem Kp.own {ws : List Addr} {H0 H1 H2 : Hp} (k : Kp ws H1 H2) (k0 : Kp [] H0 H1) (f : ∀ b ∈ ws, Fr H0 b) : Kp [] H0 H2 :=
  have t : Kp ws H0 H2 := Kp.trans k0.wide k
  ⟨fun a u h _ => t.at_ a u h fun m => (by
    have e := (f a m).e
    rw [h] at e
    cases e), t.fix, t.dom⟩
theorem kp_ins3 {H : Hp} {a C C1 C2 d d1 d2 : Addr} {f f1 f2 : List (Str × V)} {o : HO} (h : H a = some (.ins C d f)) : Kp [a] H (upd (upd (upd H a (.ins C1 d1 f1)) a (.ins C2 d2 f2)) a o) :=
  Kp.trans (Kp.trans (kp_set h (fun z => z)) (kp_set (H := upd H a (.ins C1 d1 f1)) upd_same (fun z => z))) (kp_set (H := upd (upd H a (.ins C1 d1 f1)) a (.ins C2 d2 f2)) upd_same (fun z => z))
theorem off_fresh {K : PySem.W.Frag} {C : Addr} {H : Hp} {m b : Addr} {cs : List Int} (M : MemAt K C H m cs) (f : Fr H b) : Off H m b := by
  obtain ⟨dx, l, h, vs, hl, _⟩ := M
  exact off_mk h (fr_ne hl f)
/-- rows that a program may have -/
def RsOk (rs : List (Str × List Int)) (n : Int) : Prop := ∀ r ∈ rs, SeqAt.shaped (rowD r) = true ∧ (r.1 = "done" → r.2 = []) ∧ rowOk (rowD r) n rs.length = true
def sp_linit (K : PySem.W.Frag) (CP CM CL : Addr) : Sp := fun vs H Q _ => ∃ (a p R dx : Addr) (n : Int) (xs : List V) (rs : List (Str × List Int)), vs = [.ref a, .ref p] ∧ CL ≠ CM ∧ H a = some (.ins CL dx []) ∧ ProgAt CP H p R n xs ∧ DpAll K H xs (rs.map rowD) ∧ (1 ≤ n ∧ n ≤ 1000000000000000000) ∧ RsOk rs n ∧
  ∀ RL m NL H', Fr H RL → Fr H m → Fr H NL → Kp [a] H H' → LoneAt K CM CL H' a RL m NL rs (comeTo rs 0 ⟨-1, "", List.replicate n.toNat 0, []⟩) → Q .non H'
theorem sc_Lone_init : FnScope ["self", "program"] ["self", "program"] (defScope s_Lone_init) :=
  ⟨rfl, rfl, rfl, by decide +kernel, rfl, by decide +kernel, by decide +kernel⟩
theorem ok_Lone_init {P : Program} {w : World} {K : PySem.W.Frag} {mg : Str → Option Value} {base : Heap} (T : Txt w K mg) :
    FnG P w K mg base 7 T.a_Lone_init T.d_Lone_init ["self", "program"] (sp_linit K T.c_Program T.c_Memory T.c_Lone) := by
  refine okD T.F_Lone_init sc_Lone_init (fun vs H Q E h => ?_) (fun cdv A outer s H vs Q E hr h => ?_)
  · first
      | (obtain ⟨_, rfl, _⟩ := h; rfl)
      | (obtain ⟨_, _, rfl, _⟩ := h; rfl)
      | (obtain ⟨_, _, _, rfl, _⟩ := h; rfl)
      | (obtain ⟨_, _, _, _, rfl, _⟩ := h; rfl)
      | (obtain ⟨_, _, _, _, _, rfl, _⟩ := h; rfl)
      | (obtain ⟨_, _, _, _, _, _, rfl, _⟩ := h; rfl)
      | (obtain ⟨_, _, _, _, _, _, _, rfl, _⟩ := h; rfl)
      | (obtain ⟨_, _, _, _, _, _, _, _, rfl, _⟩ := h; rfl)
      | (obtain ⟨_, _, _, _, _, _, _, _, _, rfl, _⟩ := h; rfl)
      | (obtain ⟨_, _, _, _, _, _, _, _, _, _, rfl, _⟩ := h; rfl)
      | (obtain ⟨_, _, _, _, _, _, _, _, _, _, _, rfl, _⟩ := h; rfl)
      | (obtain ⟨_, _, _, _, _, _, _, _, _, _, _, _, rfl, _⟩ := h; rfl)
      | (obtain ⟨_, _, _, _, _, _, _, _, _, _, _, _, _, rfl, _⟩ := h; rfl)
      | (obtain ⟨_, _, _, _, _, _, _, _, _, _, _, _, _, _, rfl, _⟩ := h; rfl)
      | (obtain ⟨_, _, _, _, _, _, _, _, _, _, _, _, _, _, _, rfl, _⟩ := h; rfl)
      | (obtain ⟨_, _, _, _, _, _, _, _, _, _, _, _, _, _, _, _, rfl, _⟩ := h; rfl)
      | (obtain ⟨_, _, _, _, _, _, _, _, _, _, _, _, _, _, _, _, _, rfl, _⟩ := h; rfl)
      | (obtain ⟨_, _, _, _, _, _, _, _, _, _, _, _, _, _, _, _, _, _, rfl, _⟩ := h; rfl)
      | (obtain ⟨_, _, _, _, _, _, _, _, _, _, _, _, _, _, _, _, _, _, _, rfl, _⟩ := h; rfl)
  · obtain ⟨a, p, R, dx, n, xs, rs, rfl, no, ha, hp, da, hn, ok, k⟩ := h
    obtain ⟨dp, hp1, hR1⟩ := id hp
    have cl_Memory := T.cl_Memory
    have na_Memory_pairs := T.na_Memory_pairs
    have na_Memory_wide := T.na_Memory_wide
    have cl_Lone := T.cl_Lone
    have na_Lone_all_rows := T.na_Lone_all_rows
    have na_Lone_cells := T.na_Lone_cells
    have na_Lone_next_row := T.na_Lone_next_row
    have na_Lone_numbers := T.na_Lone_numbers
    have na_Lone_rested := T.na_Lone_rested
    have cl_Program := T.cl_Program
    have na_Program_own_rows := T.na_Program_own_rows
    have na_Program_own_size := T.na_Program_own_size
    refine ⟨_, (pss_cons (k_sfld (K := K) rfl (pv 0) (dm0 T.cl_Program T.me_Program_rows (ok_Program_rows T) (hr.mono (by decide)) T.b_Program_rows passL (pv 1)) rfl)
      (pss_cons (k_sfld (K := K) rfl (pv 0) (mk1 T.mk_Memory (ok_Memory_init T) (hr.mono (by decide)) (by rfl) T.mg_Memory T.b_Memory_init passL (pa_cons (dm0 T.cl_Program T.me_Program_size (ok_Program_size T) (hr.mono (by decide)) T.b_Program_size passL (pv 1)) pa_nil)) rfl)
      (pss_cons (k_sfld (K := K) rfl (pv 0) (pe_lst pa_nil) rfl)
      (pss_cons (k_sfld (K := K) rfl (pv 0) pe_str rfl)
      (pss_cons (k_sfld (K := K) rfl (pv 0) (pe_glob (v := V.int (-1)) rfl T.g_NO_ROW ⟨_, rfl⟩) rfl)
      (pss_one (ps_expr (dm T.cl_Lone T.me_Lone_come_to (ok_Lone_come_to T) (hr.mono (by decide)) T.b_Lone_come_to passL (pv 0) (pa_cons pe_int pa_nil))))))))), ?_⟩
    dsimp only [cxOf, st_1, st_2, st_3, st_4, st_5, st_6, List.length_cons, List.length_nil, List.replicate_succ, List.replicate_zero, Nat.reduceAdd, Nat.reduceSub]
    walk_at "gs"
    refine ⟨p, R, n, xs, rfl, hp, fun RL fRL => ?_⟩
    have k1 : Kp [] H (upd H RL (.lst xs)) := Kp.new fRL
    have e1 : (upd H RL (.lst xs)) RL = some (.lst xs) := upd_same
    obtain ⟨H1, eH1⟩ : ∃ H1, H1 = upd H RL (.lst xs) := ⟨_, rfl⟩
    rw [← eH1] at k1 e1 ⊢
    have ha1 := k1.at_ _ _ ha not_nil
    walk_at "gs"
    have kA : Kp [a] H1 (upd H1 a (HO.ins T.c_Lone dx [("all_rows", .ref RL)])) := kp_set ha1 (fun z => z)
    have eA : (upd H1 a (HO.ins T.c_Lone dx [("all_rows", .ref RL)])) a = some (HO.ins T.c_Lone dx [("all_rows", .ref RL)]) := upd_same
    have hp1' : ProgAt T.c_Program H1 p R n xs := hp.kp0 k1
    have npa : p ≠ a := fun e => by
      obtain ⟨dp, hp1, _⟩ := hp
      rw [e, ha] at hp1
      injection hp1 with hp1
      injection hp1 with _ _ hf
      cases hf
    have nRa : R ≠ a := fun e => by
      rw [e, ha] at hR1
      cases hR1
    have hp2 := hp1'.kp kA (not_one npa) (not_one nRa)
    have nRL : RL ≠ a := (fr_ne ha fRL).symm
    have e2 := kA.at_ _ _ e1 (not_one nRL)
    obtain ⟨H2, eH2⟩ : ∃ H2, H2 = upd H1 a (HO.ins T.c_Lone dx [("all_rows", .ref RL)]) := ⟨_, rfl⟩
    show MethR T.c_Program (Str.ofString "size") (sp_psize T.c_Program) E0 tNil [some (V.ref a), some (V.ref p)] (V.ref p) (upd H1 a (HO.ins T.c_Lone dx [("all_rows", .ref RL)])) _
    rw [← eH2] at kA eA hp2 e2 ⊢
    obtain ⟨dp2, hp22, hR2⟩ := id hp2
    walk_at "gs"
    refine ⟨p, R, n, xs, rfl, hp2, ?_⟩
    walk_at "gs"
    refine i_made fun m d hm hd nd => ?_
    refine ⟨m, d, n, 0, rfl, upd_same, hn, fun H3 k3 M3 of3 => ⟨rfl, ?_⟩⟩
    have k23 := kp_made hm hd k3
    have eA3 := k23.at_ _ _ eA not_nil
    walk_at "gs"
    have kB : Kp [a] H3 (upd H3 a (HO.ins T.c_Lone dx [("all_rows", .ref RL), ("cells", .ref m)])) := kp_set eA3 (fun z => z)
    have eB : (upd H3 a (HO.ins T.c_Lone dx [("all_rows", .ref RL), ("cells", .ref m)])) a = some (HO.ins T.c_Lone dx [("all_rows", .ref RL), ("cells", .ref m)]) := upd_same
    obtain ⟨H4, eH4⟩ : ∃ H4, H4 = upd H3 a (HO.ins T.c_Lone dx [("all_rows", .ref RL), ("cells", .ref m)]) := ⟨_, rfl⟩
    rw [← eH4] at kB eB
    refine i_new fun NL fNL => ?_
    have fNL : Fr H4 NL := by
      rw [eH4]
      exact fNL
    show tVar 0 _ (upd (upd H3 a (HO.ins T.c_Lone dx [("all_rows", .ref RL), ("cells", .ref m)])) NL (.lst [])) _
    rw [← eH4]
    have kN : Kp [] H4 (upd H4 NL (.lst [])) := Kp.new fNL
    have eN : (upd H4 NL (.lst [])) NL = some (.lst []) := upd_same
    obtain ⟨H5, eH5⟩ : ∃ H5, H5 = upd H4 NL (.lst []) := ⟨_, rfl⟩
    rw [← eH5] at kN eN ⊢
    have eB5 := kN.at_ _ _ eB not_nil
    walk_at "gs"
    have nNa : NL ≠ a := (fr_ne eB fNL).symm
    obtain ⟨HZ, eHZ⟩ : ∃ HZ, HZ = upd (upd (upd H5 a (HO.ins T.c_Lone dx [("all_rows", .ref RL), ("cells", .ref m), ("numbers", .ref NL)])) a (HO.ins T.c_Lone dx [("all_rows", .ref RL), ("cells", .ref m), ("numbers", .ref NL), ("rested", .str "")])) a (HO.ins T.c_Lone dx (lfs RL m NL "" (-1))) := ⟨_, rfl⟩
    have kZ : Kp [a] H5 HZ := by
      rw [eHZ]
      exact kp_ins3 eB5
    have eZ : HZ a = some (HO.ins T.c_Lone dx (lfs RL m NL "" (-1))) := by
      rw [eHZ]
      exact upd_same
    show sp_lcome K T.c_Memory T.c_Lone [V.ref a, V.int 0] (upd (upd (upd H5 a (HO.ins T.c_Lone dx [("all_rows", .ref RL), ("cells", .ref m), ("numbers", .ref NL)])) a (HO.ins T.c_Lone dx [("all_rows", .ref RL), ("cells", .ref m), ("numbers", .ref NL), ("rested", .str "")])) a (HO.ins T.c_Lone dx (lfs RL m NL "" (-1)))) _ _
    rw [← eHZ]
    have k02 : Kp [a] H H2 := Kp.trans k1.wide kA
    have k05 : Kp [a] H H3 := Kp.trans (Kp.trans k1.wide kA) k23.wide
    have kall : Kp [a] H HZ := Kp.trans (Kp.trans (Kp.trans k05 kB) kN.wide) kZ
    have nam : a ≠ m := by
      obtain ⟨dm, l, h1, _⟩ := id M3
      intro e
      rw [← e, eA3] at h1
      injection h1 with h1
      injection h1 with h1
      exact no h1
    have nma : m ∉ [a] := not_one (Ne.symm nam)
    have M4 := mem_kp1 M3 kB (.inr (.inl ⟨nam, _, _, _, eA3⟩))
    have M5 := mem_kp0 M4 kN
    have M6 := mem_kp1 M5 kZ (.inr (.inl ⟨nam, _, _, _, eB5⟩))
    have tRL : Tr H2 RL := tr_of e2
    have oR3 : Off H3 m RL := of3 RL (tr_kp (Kp.upd (Kp.new (ws := []) hd) hm) tRL)
    have oR4 := off_kp kB (tr_mem M3) nma oR3
    have oR5 := off_kp kN (tr_mem M4) not_nil oR4
    have oR6 := off_kp kZ (tr_mem M5) nma oR5
    have eR4 := kB.at_ _ _ (k23.at_ _ _ e2 not_nil) (not_one nRL)
    have oN5 : Off H5 m NL := off_kp kN (tr_mem M4) not_nil (off_fresh M4 fNL)
    have L : LoneAt K T.c_Memory T.c_Lone HZ a RL m NL rs ⟨-1, "", List.replicate n.toNat 0, []⟩ :=
      ⟨⟨dx, eZ⟩, ⟨xs, kZ.at_ _ _ (kN.at_ _ _ (kB.at_ _ _ (k23.at_ _ _ e2 not_nil) (not_one nRL)) not_nil) (not_one nRL), dpa_imm kall _ _ (rowsD_imm rs) da⟩, M6, kZ.at_ _ _ eN (not_one nNa), off_kp kZ (tr_mem M5) nma oN5, oR6, fr_ne eR4 fNL⟩
    refine ⟨a, RL, m, NL, rs, _, 0, rfl, no, L, Nat.zero_le _, fun r hr => (ok r hr).1, fun r hr => (ok r hr).2.1, fun H' k' L' => ?_⟩
    exact k RL m NL H' fRL (k02.free hm) ((Kp.trans k05 kB).free fNL) (Kp.trans kall k') L'

theorem comeTo_pl {rs : List (Str × List Int)} {g : Nat} {s : LS} {pl : Int} : comeTo rs g { s with place := pl } = comeTo rs g s := by
  unfold comeTo
  split
  · rfl
  · split <;> rfl
theorem LoneAt.oins {K : PySem.W.Frag} {CM CL : Addr} {H H' : Hp} {a b RL m NL dx C : Addr} {rs : List (Str × List Int)} {s : LS} {fs : List (Str × V)} (h : LoneAt K CM CL H a RL m NL rs s) (k : Kp [b] H H') (hb : H b = some (.ins C dx fs)) (ne : b ≠ a) (nm : b ≠ m) : LoneAt K CM CL H' a RL m NL rs s := by
  obtain ⟨⟨d, h1⟩, ⟨xs, h2, h3⟩, h4, h5, h6, h7, h8⟩ := h
  have nR : RL ≠ b := fun e => by
    rw [e, hb] at h2
    cases h2
  have nN : NL ≠ b := fun e => by
    rw [e, hb] at h5
    cases h5
  have nmb : m ∉ [b] := not_one (Ne.symm nm)
  exact ⟨⟨d, k.at_ _ _ h1 (not_one (Ne.symm ne))⟩, ⟨xs, k.at_ _ _ h2 (not_one nR), dpa_imm k _ _ (rowsD_imm rs) h3⟩, mem_kp1 h4 k (.inr (.inl ⟨nm, _, _, _, hb⟩)), k.at_ _ _ h5 (not_one nN), off_kp k (tr_mem h4) nmb h6, off_kp k (tr_mem h4) nmb h7, h8⟩
def youngS (rs : List (Str × List Int)) (s : LS) : LS := match rowAt rs s with
  | some r => comeTo rs (r.2.getD 0 0).toNat { s with rest := "" }
  | none => s
def elderS (rs : List (Str × List Int)) (s : LS) : LS := comeTo rs (s.place.toNat + 1) s
def sp_lparted (K : PySem.W.Frag) (CP CM CL : Addr) : Sp := fun vs H Q _ => ∃ (a RL m NL p R : Addr) (n : Int) (xs : List V) (rs : List (Str × List Int)) (s : LS) (i : Nat), vs = [.ref a, .ref p] ∧ CL ≠ CM ∧ LoneAt K CM CL H a RL m NL rs s ∧ ProgAt CP H p R n xs ∧ DpAll K H xs (rs.map rowD) ∧ (1 ≤ n ∧ n ≤ 1000000000000000000) ∧ s.cs.length = n.toNat ∧
  RsOk rs n ∧ s.place = i ∧ i < rs.length ∧ atFork rs s = true ∧ (rle s.cs).length ≤ 10000 ∧ s.told.length ≤ 10000 ∧
  ∀ a2 RL2 m2 NL2 H', Fr H a2 → Fr H m2 → Fr H NL2 → a2 ≠ m2 → Kp [a] H H' → LoneAt K CM CL H' a RL m NL rs (elderS rs s) → LoneAt K CM CL H' a2 RL2 m2 NL2 rs (youngS rs s) → Q (.ref a2) H'
theorem sc_Lone_parted : FnScope ["self", "program", "found"] ["self", "program"] (defScope s_Lone_parted) :=
  ⟨rfl, rfl, rfl, by decide +kernel, rfl, by decide +kernel, by decide +kernel⟩
theorem ok_Lone_parted {P : Program} {w : World} {K : PySem.W.Frag} {mg : Str → Option Value} {base : Heap} (T : Txt w K mg) :
    FnG P w K mg base 9 T.a_Lone_parted T.d_Lone_parted ["self", "program"] (sp_lparted K T.c_Program T.c_Memory T.c_Lone) := by
  refine okD T.F_Lone_parted sc_Lone_parted (fun vs H Q E h => ?_) (fun cdv A outer s H vs Q E hr h => ?_)
  · first
      | (obtain ⟨_, rfl, _⟩ := h; rfl)
      | (obtain ⟨_, _, rfl, _⟩ := h; rfl)
      | (obtain ⟨_, _, _, rfl, _⟩ := h; rfl)
      | (obtain ⟨_, _, _, _, rfl, _⟩ := h; rfl)
      | (obtain ⟨_, _, _, _, _, rfl, _⟩ := h; rfl)
      | (obtain ⟨_, _, _, _, _, _, rfl, _⟩ := h; rfl)
      | (obtain ⟨_, _, _, _, _, _, _, rfl, _⟩ := h; rfl)
      | (obtain ⟨_, _, _, _, _, _, _, _, rfl, _⟩ := h; rfl)
      | (obtain ⟨_, _, _, _, _, _, _, _, _, rfl, _⟩ := h; rfl)
      | (obtain ⟨_, _, _, _, _, _, _, _, _, _, rfl, _⟩ := h; rfl)
      | (obtain ⟨_, _, _, _, _, _, _, _, _, _, _, rfl, _⟩ := h; rfl)
      | (obtain ⟨_, _, _, _, _, _, _, _, _, _, _, _, rfl, _⟩ := h; rfl)
      | (obtain ⟨_, _, _, _, _, _, _, _, _, _, _, _, _, rfl, _⟩ := h; rfl)
      | (obtain ⟨_, _, _, _, _, _, _, _, _, _, _, _, _, _, rfl, _⟩ := h; rfl)
      | (obtain ⟨_, _, _, _, _, _, _, _, _, _, _, _, _, _, _, rfl, _⟩ := h; rfl)
      | (obtain ⟨_, _, _, _, _, _, _, _, _, _, _, _, _, _, _, _, rfl, _⟩ := h; rfl)
      | (obtain ⟨_, _, _, _, _, _, _, _, _, _, _, _, _, _, _, _, _, rfl, _⟩ := h; rfl)
      | (obtain ⟨_, _, _, _, _, _, _, _, _, _, _, _, _, _, _, _, _, _, rfl, _⟩ := h; rfl)
      | (obtain ⟨_, _, _, _, _, _, _, _, _, _, _, _, _, _, _, _, _, _, _, rfl, _⟩ := h; rfl)
  · obtain ⟨a, RL, m, NL, p, R, n, xs, rs, s, i, rfl, no, L, hp, da, hn, ln, ok, ei, hi, af, few, tf, k⟩ := h
    obtain ⟨dx, ha⟩ := L.ins
    obtain ⟨r, hrw⟩ : ∃ r, rs[i]? = some r := ⟨_, List.getElem?_eq_getElem hi⟩
    have hrm := List.mem_of_getElem? hrw
    have er : rowAt rs s = some r := by
      unfold rowAt
      rw [if_neg (by rw [ei]; omega), ei, Int.toNat_natCast, hrw]
    have wf : r.1 = "fork" := by
      unfold atFork at af
      rw [er] at af
      exact of_decide_eq_true af
    obtain ⟨g, eg, hg⟩ : ∃ g, r.2 = [g] ∧ 0 ≤ g ∧ g ≤ rs.length := by
      obtain ⟨w, ns⟩ := r
      obtain rfl := wf
      exact inv_r (by decide +kernel) (ok _ hrm).2.2
    have cl_Memory := T.cl_Memory
    have na_Memory_pairs := T.na_Memory_pairs
    have na_Memory_wide := T.na_Memory_wide
    have cl_Lone := T.cl_Lone
    have na_Lone_all_rows := T.na_Lone_all_rows
    have na_Lone_cells := T.na_Lone_cells
    have na_Lone_next_row := T.na_Lone_next_row
    have na_Lone_numbers := T.na_Lone_numbers
    have na_Lone_rested := T.na_Lone_rested
    have cl_Program := T.cl_Program
    have na_Program_own_rows := T.na_Program_own_rows
    have na_Program_own_size := T.na_Program_own_size
    refine ⟨_, (pss_cons (ps_set (i := 2) sc_Lone_parted.nd rfl (Or.inl rfl) (mk1 T.mk_Lone (ok_Lone_init T) (hr.mono (by decide)) (by rfl) T.mg_Lone T.b_Lone_init passL (pa_cons (pv 1) pa_nil)))
      (pss_cons (k_sfld (K := K) rfl (pv 2) (dm0 T.cl_Memory T.me_Memory_copied (ok_Memory_copied T) (hr.mono (by decide)) T.b_Memory_copied passL (k_fld (K := K) rfl (pv 0) rfl)) rfl)
      (pss_cons (k_sfld (K := K) rfl (pv 2) (pe_callTy (k_list (K := K) rfl) (by rfl) T.n_list (by decide +kernel) (pa_cons (k_fld (K := K) rfl (pv 0) rfl) pa_nil)) rfl)
      (pss_cons (k_sfld (K := K) rfl (pv 2) pe_str rfl)
      (pss_cons (ps_expr (dm T.cl_Lone T.me_Lone_come_to (ok_Lone_come_to T) (hr.mono (by decide)) T.b_Lone_come_to passL (pv 2) (pa_cons (pe_ix (k_ix (K := K) rfl) (pe_ix (k_ix (K := K) rfl) (k_fld (K := K) rfl (pv 0) rfl) (k_fld (K := K) rfl (pv 0) rfl) (fun _ _ => rfl)) pe_int (fun _ _ => rfl)) pa_nil)))
      (pss_cons (ps_expr (dm T.cl_Lone T.me_Lone_come_to (ok_Lone_come_to T) (hr.mono (by decide)) T.b_Lone_come_to passL (pv 0) (pa_cons (pe_op (k_add (K := K) rfl) (k_fld (K := K) rfl (pv 0) rfl) pe_int) pa_nil)))
      (pss_one (ps_ret (pv 2))))))))), ?_⟩
    dsimp only [cxOf, st_1, st_2, st_3, st_4, st_5, st_6, List.length_cons, List.length_nil, List.replicate_succ, List.replicate_zero, Nat.reduceAdd, Nat.reduceSub]
    walk_at "gs"
    refine i_made fun a2 d2 fa2 fd2 nd2 => ?_
    have k00 : Kp [] H (upd (upd H d2 (.own a2)) a2 (.ins T.c_Lone d2 [])) := Kp.upd (Kp.new fd2) fa2
    refine ⟨a2, p, R, d2, n, xs, rs, rfl, no, upd_same, hp.kp0 k00, dpa_imm k00 _ _ (rowsD_imm rs) da, hn, ok, fun RL2 m0 N0 H1 _ _ _ k1 L0 => ⟨rfl, ?_⟩⟩
    have k01 := kp_made fa2 fd2 k1
    obtain ⟨pl0, epl⟩ : ∃ pl0, pl0 = (comeTo rs 0 ⟨-1, "", List.replicate n.toNat 0, []⟩).place := ⟨_, rfl⟩
    obtain ⟨rs0, ers⟩ : ∃ rs0, rs0 = (comeTo rs 0 ⟨-1, "", List.replicate n.toNat 0, []⟩).rest := ⟨_, rfl⟩
    obtain ⟨dx2, hi2⟩ := L0.ins
    obtain ⟨xs2, hR2, da2⟩ := L0.rows
    rw [← epl, ← ers] at hi2
    have L1 := L.kp0 k01
    obtain ⟨dx1, ha1⟩ := L1.ins
    obtain ⟨dm1, lm1, hm1, _⟩ := id L1.mem
    walk_at "gs"
    refine ⟨m, s.cs, rfl, L1.mem, ⟨by omega, by omega⟩, few, fun m2 H2 fm2 k2 M2 of2 => ?_⟩
    have L2' := L1.kp0 k2
    have hi22 := k2.at_ _ _ hi2 not_nil
    have hR22 := k2.at_ _ _ hR2 not_nil
    have da22 := dpa_imm k2 _ _ (rowsD_imm rs) da2
    obtain ⟨dxa2, ha2⟩ := L2'.ins
    walk_at "gs"
    have kB : Kp [a2] H2 (upd H2 a2 (HO.ins T.c_Lone dx2 (lfs RL2 m2 N0 rs0 pl0))) := kp_set hi22 (fun z => z)
    have eB : (upd H2 a2 (HO.ins T.c_Lone dx2 (lfs RL2 m2 N0 rs0 pl0))) a2 = some (HO.ins T.c_Lone dx2 (lfs RL2 m2 N0 rs0 pl0)) := upd_same
    obtain ⟨H3, eH3⟩ : ∃ H3, H3 = upd H2 a2 (HO.ins T.c_Lone dx2 (lfs RL2 m2 N0 rs0 pl0)) := ⟨_, rfl⟩
    show rListOf K [V.ref NL] (upd H2 a2 (HO.ins T.c_Lone dx2 (lfs RL2 m2 N0 rs0 pl0))) _
    rw [← eH3] at kB eB ⊢
    have na : a2 ≠ a := (fr_ne ha fa2).symm
    have n2 : a2 ≠ m2 := fr_ne hi2 fm2
    have nm : a2 ≠ m := by
      obtain ⟨dm, lm, hm, _⟩ := id L.mem
      exact (fr_ne hm fa2).symm
    have L3 := L2'.oins kB hi22 na nm
    have M3 := mem_kp1 M2 kB (.inr (.inl ⟨n2, _, _, _, hi22⟩))
    refine i_listL (SqL.of L3.nums) (i_new fun NL2 fNL2 => ?_)
    have kN : Kp [] H3 (upd H3 NL2 (.lst (s.told.map V.int))) := Kp.new fNL2
    have eN : (upd H3 NL2 (.lst (s.told.map V.int))) NL2 = some (.lst (s.told.map V.int)) := upd_same
    obtain ⟨H4, eH4⟩ : ∃ H4, H4 = upd H3 NL2 (.lst (s.told.map V.int)) := ⟨_, rfl⟩
    show tVar 2 _ (upd H3 NL2 (.lst (s.told.map V.int))) _
    rw [← eH4] at kN eN ⊢
    have hi4 := kN.at_ _ _ eB not_nil
    have L4 := L3.kp0 kN
    have M4 := mem_kp0 M3 kN
    obtain ⟨dxa4, ha4⟩ := L4.ins
    obtain ⟨xsa, hRa, daa⟩ := L4.rows
    walk_at "gs"
    obtain ⟨HZ, eHZ⟩ : ∃ HZ, HZ = upd (upd H4 a2 (HO.ins T.c_Lone dx2 (lfs RL2 m2 NL2 rs0 pl0))) a2 (HO.ins T.c_Lone dx2 (lfs RL2 m2 NL2 "" pl0)) := ⟨_, rfl⟩
    show uIx K (V.ref RL) (V.int s.place) (upd (upd H4 a2 (HO.ins T.c_Lone dx2 (lfs RL2 m2 NL2 rs0 pl0))) a2 (HO.ins T.c_Lone dx2 (lfs RL2 m2 NL2 "" pl0))) _
    rw [← eHZ]
    have kZ : Kp [a2] H4 HZ := by
      rw [eHZ]
      exact Kp.trans (kp_set hi4 (fun z => z)) (kp_set (H := upd H4 a2 (HO.ins T.c_Lone dx2 (lfs RL2 m2 NL2 rs0 pl0))) upd_same (fun z => z))
    have hiZ : HZ a2 = some (HO.ins T.c_Lone dx2 (lfs RL2 m2 NL2 "" pl0)) := by
      rw [eHZ]
      exact upd_same
    have LZ := L4.oins kZ hi4 na nm
    have MZ := mem_kp1 M4 kZ (.inr (.inl ⟨n2, _, _, _, hi4⟩))
    have nR2 : RL2 ≠ a2 := fun e => by
      rw [e, hi22] at hR22
      cases hR22
    have nN2 : NL2 ≠ a2 := (fr_ne eB fNL2).symm
    have eR3 := kB.at_ _ _ hR22 (not_one nR2)
    have eRZ := kZ.at_ _ _ (kN.at_ _ _ eR3 not_nil) (not_one nR2)
    have k2Z : Kp [a2] H2 HZ := Kp.trans (Kp.trans kB kN.wide) kZ
    have nm2 : m2 ∉ [a2] := not_one (Ne.symm n2)
    have oN : Off HZ m2 NL2 := off_kp kZ (tr_mem M4) nm2 (off_kp kN (tr_mem M3) not_nil (off_fresh M3 fNL2))
    have oR : Off HZ m2 RL2 := off_kp k2Z (tr_mem M2) nm2 (of2 RL2 (tr_of hR2))
    obtain ⟨s2, es2⟩ : ∃ s2 : LS, s2 = { s with place := pl0, rest := "" } := ⟨_, rfl⟩
    have LB : LoneAt K T.c_Memory T.c_Lone HZ a2 RL2 m2 NL2 rs s2 := by
      rw [es2]
      exact ⟨⟨dx2, hiZ⟩, ⟨xs2, eRZ, dpa_imm k2Z _ _ (rowsD_imm rs) da22⟩, MZ, kZ.at_ _ _ eN (not_one nN2), oN, oR, fr_ne eR3 fNL2⟩
    obtain ⟨dxaZ, haZ⟩ := LZ.ins
    obtain ⟨xsZ, hRZ, daZ⟩ := LZ.rows
    obtain ⟨x, hx, hxd⟩ := dpa_get daZ (d := rowD r) (by rw [List.getElem?_map, hrw]; rfl)
    have hat : atI xsZ s.place = some x := by
      rw [ei]
      exact atI_nat hx
    obtain ⟨w, ns⟩ := r
    obtain rfl := wf
    obtain rfl := eg
    obtain ⟨t, rfl, ht⟩ := dp_wrow hxd
    have at1 : atI (V.str "fork" :: [g].map V.int) 1 = some (.int g) := atI_nat (j := 1) rfl
    walk_at "gs"
    refine ⟨a2, RL2, m2, NL2, rs, s2, g.toNat, by rw [Int.toNat_of_nonneg hg.1], no, LB, by omega, fun r hr2 => (ok r hr2).1, fun r hr2 => (ok r hr2).2.1, fun H6 k6 L6 => ?_⟩
    have LA6 := LZ.oins k6 hiZ na nm
    obtain ⟨dxa6, ha6⟩ := LA6.ins
    walk_at "gs"
    refine ⟨a, RL, m, NL, rs, s, i + 1, by rw [ei]; rfl, no, LA6, by omega, fun r hr2 => (ok r hr2).1, fun r hr2 => (ok r hr2).2.1, fun H7 k7 L7 => ?_⟩
    have nam2 : a ≠ m2 := fr_ne ha1 fm2
    have LB7 := L6.oins k7 ha6 (Ne.symm na) nam2
    walk_at "gs"
    have yS : youngS rs s = comeTo rs g.toNat s2 := by
      unfold youngS
      rw [er, es2]
      exact comeTo_pl.symm
    have eS : elderS rs s = comeTo rs (i + 1) s := by
      unfold elderS
      rw [ei, Int.toNat_natCast]
    have f2 : ∀ b ∈ [a2], Fr H b := fun b hb => by
      rw [List.mem_singleton.mp hb]
      exact fa2
    have k02 := Kp.trans k01 k2
    have k03 : Kp [] H H3 := Kp.own kB k02 f2
    have k06 : Kp [] H H6 := Kp.own (Kp.trans (Kp.trans (Kp.trans kB kN.wide) kZ) k6) k02 f2
    have kk : Kp [a] H H7 := Kp.trans k06.wide k7
    exact k a2 RL2 m2 NL2 H7 fa2 (k01.free fm2) (k03.free fNL2) n2 kk (by rw [eS]; exact L7) (by rw [yS]; exact LB7)

/-! ### gone along letters -/
def goes (rs : List (Str × List Int)) (s : LS) (zs : List Nat) : Bool := decide (s.rest = "") && (!zs.isEmpty || !atFork rs s)
def nextS (rs : List (Str × List Int)) (s : LS) (zs : List Nat) : LS := if atFork rs s then (if zs.headD 0 = 121 then youngS rs s else elderS rs s) else stepS rs s
def nextZ (rs : List (Str × List Int)) (s : LS) (zs : List Nat) : List Nat := if atFork rs s then zs.tail else zs
def goS (rs : List (Str × List Int)) : Nat → LS → List Nat → Option (LS × List Nat)
  | 0, s, zs => if goes rs s zs then none else some (s, zs)
  | n + 1, s, zs => if goes rs s zs then goS rs n (nextS rs s zs) (nextZ rs s zs) else some (s, zs)
theorem goS_end {rs : List (Str × List Int)} {n : Nat} {s : LS} {zs : List Nat} (h : goes rs s zs = false) : goS rs n s zs = some (s, zs) := by
  cases n <;> simp only [goS, h, Bool.false_eq_true, if_false]
theorem goS_on {rs : List (Str × List Int)} {n : Nat} {s : LS} {zs : List Nat} {r : LS × List Nat} (h : goes rs s zs = true) (g : goS rs n s zs = some r) : ∃ m, n = m + 1 ∧ goS rs m (nextS rs s zs) (nextZ rs s zs) = some r := by
  cases n with
  | zero => simp only [goS, h, if_true] at g; cases g
  | succ m =>
    simp only [goS, h, if_true] at g
    exact ⟨m, rfl, g⟩
/-- numbers up to a bound that a step may double -/
def topN (j : Nat) : Int := 1000000000000000000000 * 2 ^ j
theorem topN_pos (j : Nat) : 1000000000000000000000 ≤ topN j := by
  unfold topN
  have : (0 : Int) < 2 ^ j := Int.pow_pos (by decide)
  omega
theorem topN_succ (j : Nat) : topN (j + 1) = 2 * topN j := by
  unfold topN
  rw [Int.pow_succ]
  omega
def In_ (j : Nat) (v : Int) : Prop := -topN j ≤ v ∧ v ≤ topN j
theorem In_.up {j : Nat} {v : Int} (h : In_ j v) : In_ (j + 1) v := by
  have := topN_pos j
  unfold In_ at h ⊢
  rw [topN_succ]
  omega
theorem In_.add {j : Nat} {v w : Int} (h : In_ j v) (g : In_ j w) : In_ (j + 1) (v + w) := by
  unfold In_ at h g ⊢
  rw [topN_succ]
  omega
theorem In_.zero {j : Nat} : In_ j 0 := by
  have := topN_pos j
  unfold In_
  omega
structure SOk (rs : List (Str × List Int)) (n j : Nat) (s : LS) : Prop where
  len : s.cs.length = n
  few : (rle s.cs).length ≤ 1 + 2 * j
  tf : s.told.length ≤ j
  big : ∀ v ∈ s.cs, In_ j v
  bigT : ∀ v ∈ s.told, In_ j v
  pl : (s.rest = "" ∧ ∃ i : Nat, s.place = i ∧ i < rs.length) ∨ (s.rest ≠ "" ∧ s.place = -1)
/-- what stands, but for the place -/
structure SOk0 (n j : Nat) (s : LS) : Prop where
  len : s.cs.length = n
  few : (rle s.cs).length ≤ 1 + 2 * j
  tf : s.told.length ≤ j
  big : ∀ v ∈ s.cs, In_ j v
  bigT : ∀ v ∈ s.told, In_ j v
section
variable {rs : List (Str × List Int)} {n j : Nat} {s : LS}
theorem SOk.base (h : SOk rs n j s) : SOk0 n (j + 1) s := ⟨h.len, by have := h.few; omega, by have := h.tf; omega, fun v m => (h.big v m).up, fun v m => (h.bigT v m).up⟩
theorem come_data {pl : Nat} : (comeTo rs pl s).cs = s.cs ∧ (comeTo rs pl s).told = s.told := by
  unfold comeTo
  split
  · exact ⟨rfl, rfl⟩
  · split <;> exact ⟨rfl, rfl⟩
theorem SOk0.come (h : SOk0 n j s) (r : s.rest = "") {pl : Nat} : SOk rs n j (comeTo rs pl s) := by
  obtain ⟨c, t⟩ := come_data (rs := rs) (s := s) (pl := pl)
  refine ⟨by rw [c]; exact h.len, by rw [c]; exact h.few, by rw [t]; exact h.tf, by rw [c]; exact h.big, by rw [t]; exact h.bigT, ?_⟩
  unfold comeTo
  split
  · exact .inr ⟨by show ("done" : Str) ≠ ""; decide +kernel, rfl⟩
  · rename_i r' e
    split
    · exact .inr ⟨by show ("done" : Str) ≠ ""; decide +kernel, rfl⟩
    · exact .inl ⟨r, pl, rfl, (List.getElem?_eq_some_iff.mp e).1⟩
theorem SOk0.fail (h : SOk0 n j s) : SOk rs n j (failS s) := ⟨h.len, h.few, h.tf, h.big, h.bigT, .inr ⟨by show ("failed" : Str) ≠ ""; decide +kernel, rfl⟩⟩
theorem mem_setC {cs : List Int} {c v x : Int} (h : x ∈ setC cs c v) : x ∈ cs ∨ x = v := by
  unfold setC laid at h
  rcases List.mem_append.mp h with h | h
  · rcases List.mem_append.mp h with h | h
    · exact .inl (List.mem_of_mem_take h)
    · exact .inr (List.mem_singleton.mp h)
  · exact .inl (List.mem_of_mem_drop h)
theorem mem_fillC {cs : List Int} {b e v x : Int} (h : x ∈ fillC cs b e v) : x ∈ cs ∨ x = v := by
  unfold fillC laid at h
  rcases List.mem_append.mp h with h | h
  · rcases List.mem_append.mp h with h | h
    · exact .inl (List.mem_of_mem_take h)
    · exact .inr (List.mem_replicate.mp h).2
  · exact .inl (List.mem_of_mem_drop h)
theorem getC_in {cs : List Int} {c : Int} (h : inC cs c) : getC cs c ∈ cs := by
  obtain ⟨i, _, e⟩ := getC_at h
  exact List.mem_of_getElem? e
/-- one cell written -/
theorem SOk.put (h : SOk rs n j s) {c v : Int} (hc : inC s.cs c) (hv : In_ (j + 1) v) : SOk0 n (j + 1) { s with cs := setC s.cs c v } :=
  ⟨(len_setC hc).trans h.len, by have := rle_setC (v := v) hc; have := h.few; show (rle (setC s.cs c v)).length ≤ _; omega, by have := h.tf; show s.told.length ≤ _; omega,
    fun x m => (mem_setC m).elim (fun m => (h.big x m).up) (fun e => e ▸ hv), fun v m => (h.bigT v m).up⟩
end
def SmallR (rs : List (Str × List Int)) : Prop := ∀ r ∈ rs, ∀ v ∈ r.2, In_ 0 v
theorem In_.le {i j : Nat} (h : i ≤ j) {v : Int} (g : In_ i v) : In_ j v := by
  induction h with
  | refl => exact g
  | step _ ih => exact ih.up
section
variable {rs : List (Str × List Int)} {n : Int} {j : Nat} {s : LS}
theorem SOk.change (h : SOk rs n.toNat j s) {w : Str} {ns : List Int} (hn : (n.toNat : Int) = n) (ok : rowOk (rowD (w, ns)) n rs.length = true) (sm : ∀ v ∈ ns, In_ 0 v) : SOk0 n.toNat (j + 1) (changeS w ns s) := by
  have le : (s.cs.length : Int) = n := by rw [h.len, hn]
  rw [← le] at ok
  unfold changeS
  by_cases c1 : w = "put"
  · rw [if_pos c1]
    subst c1
    obtain ⟨c, v, rfl, hc⟩ := inv_cn (by decide +kernel) ok
    exact h.put hc ((sm v (by simp)).le (by omega))
  rw [if_neg c1]
  by_cases c2 : w = "move"
  · rw [if_pos c2]
    subst c2
    obtain ⟨c, d, rfl, hc, hd⟩ := inv_cc (by decide +kernel) ok
    exact h.put hc (h.big _ (getC_in hd)).up
  rw [if_neg c2]
  by_cases c3 : w = "add"
  · rw [if_pos c3]
    subst c3
    obtain ⟨c, d, rfl, hc, hd⟩ := inv_cc (by decide +kernel) ok
    exact h.put hc ((h.big _ (getC_in hc)).add (h.big _ (getC_in hd)))
  rw [if_neg c3]
  by_cases c4 : w = "fill"
  · rw [if_pos c4]
    subst c4
    obtain ⟨b, e, c, rfl, hb, be, he, hc⟩ := inv_bec ok
    have bb := rle_fillV (cs := s.cs) (v := getC s.cs c) ⟨hb, be, he⟩
    have few := h.few
    exact ⟨(len_fillC ⟨hb, be, he⟩).trans h.len, (by show (rle (fillC s.cs b e (getC s.cs c))).length ≤ _; unfold fillC; omega), (by have := h.tf; show s.told.length ≤ _; omega),
      fun x m => (mem_fillC m).elim (fun m => (h.big x m).up) (fun e2 => e2 ▸ (h.big _ (getC_in hc)).up), fun v m => (h.bigT v m).up⟩
  rw [if_neg c4]
  by_cases c5 : w = "tell"
  · rw [if_pos c5]
    subst c5
    obtain ⟨c, rfl, hc⟩ := inv_c (by decide +kernel) ok
    refine ⟨h.len, (by have := h.few; show (rle s.cs).length ≤ _; omega), (by have := h.tf; show (s.told ++ _).length ≤ _; rw [List.length_append, List.length_singleton]; omega), fun v m => (h.big v m).up, fun v m => ?_⟩
    rcases List.mem_append.mp m with m | m
    · exact (h.bigT v m).up
    · rw [List.mem_singleton.mp m]
      exact (h.big _ (getC_in hc)).up
  rw [if_neg c5]
  exact h.base
theorem change_rest {w : Str} {ns : List Int} : (changeS w ns s).rest = s.rest := by
  unfold changeS
  split
  · rfl
  split
  · rfl
  split
  · rfl
  split
  · rfl
  split
  · rfl
  · rfl
theorem SOk.lead (h : SOk rs n.toNat j s) {w : Str} {ns : List Int} {s' : LS} (hn : (n.toNat : Int) = n) (hw : w = "from" ∨ w = "into") (ok : rowOk (rowD (w, ns)) n rs.length = true) (e : leadS w ns s = some s') : SOk0 n.toNat (j + 1) s' ∧ s'.rest = s.rest := by
  have le : (s.cs.length : Int) = n := by rw [h.len, hn]
  rw [← le] at ok
  obtain ⟨c, d, rfl, hc, hd⟩ : ∃ c d, ns = [c, d] ∧ inC s.cs c ∧ inC s.cs d := by
    rcases hw with rfl | rfl
    · exact inv_cc (by decide +kernel) ok
    · exact inv_cc (by decide +kernel) ok
  unfold leadS at e
  split at e
  · split at e
    · cases e
    · rename_i g
      cases e
      exact ⟨h.put hc (h.big _ (getC_in (goal_in g))).up, rfl⟩
  · split at e
    · cases e
    · rename_i g
      cases e
      exact ⟨h.put (goal_in g) (h.big _ (getC_in hd)).up, rfl⟩
theorem SOk.row (h : SOk rs n.toNat j s) (r : s.rest = "") : ∃ i : Nat, ∃ q, s.place = i ∧ i < rs.length ∧ rs[i]? = some q ∧ rowAt rs s = some q ∧ q ∈ rs := by
  rcases h.pl with ⟨_, i, ei, hi⟩ | ⟨a, _⟩
  · have e := List.getElem?_eq_getElem hi
    refine ⟨i, _, ei, hi, e, ?_, List.mem_of_getElem? e⟩
    unfold rowAt
    rw [if_neg (by rw [ei]; omega), ei, Int.toNat_natCast, e]
  · exact absurd r a
theorem SOk.step (h : SOk rs n.toNat j s) (hn : (n.toNat : Int) = n) (ok : RsOk rs n) (sm : SmallR rs) (r : s.rest = "") : SOk rs n.toNat (j + 1) (stepS rs s) := by
  obtain ⟨i, q, ei, hi, hq, er, hm⟩ := h.row r
  obtain ⟨_, _, okr⟩ := ok q hm
  obtain ⟨w, ns⟩ := q
  unfold stepS
  rw [er]
  simp only
  split
  · exact h.base.come r
  split
  · exact h.base.fail
  split
  · rename_i hw
    cases el : leadS w ns s with
    | none => exact h.base.fail
    | some s' =>
      obtain ⟨a, b⟩ := h.lead hn hw okr el
      exact a.come (b.trans r)
  · exact (h.change hn okr (sm _ hm)).come (change_rest.trans r)
theorem SOk.next (h : SOk rs n.toNat j s) (hn : (n.toNat : Int) = n) (ok : RsOk rs n) (sm : SmallR rs) (r : s.rest = "") {zs : List Nat} : SOk rs n.toNat (j + 1) (nextS rs s zs) := by
  obtain ⟨i, q, ei, hi, hq, er, hm⟩ := h.row r
  unfold nextS
  split
  · split
    · unfold youngS
      rw [er]
      have e : ({ s with rest := "" } : LS) = s := by
        cases s
        simp only at r
        rw [r]
      simp only [e]
      exact h.base.come r
    · exact h.base.come r
  · exact h.step hn ok sm r
end
def beginS (rs : List (Str × List Int)) (n : Int) : LS := comeTo rs 0 ⟨-1, "", List.replicate n.toNat 0, []⟩
theorem begin_ok {rs : List (Str × List Int)} {n : Int} (h : 1 ≤ n) : SOk rs n.toNat 0 (beginS rs n) := by
  have e := rle_one (n := n) (v := 0) (by omega)
  refine SOk0.come (s := ⟨-1, "", List.replicate n.toNat 0, []⟩) ⟨List.length_replicate, ?_, Nat.le_refl _, fun v m => ?_, fun v m => by cases m⟩ rfl
  · show (rle (List.replicate n.toNat 0)).length ≤ _
    rw [e]
    exact Nat.le_refl _
  · rw [(List.mem_replicate.mp m).2]
    exact In_.zero

/-! ### while; three at once -/
theorem i_par3 {i j l : Nat} {tt : TA} {D : Ends} {σ : L2.St} {H : Hp}
    (h : tt σ H fun vs H1 => ∃ u v w, vs = [u, v, w] ∧ D.nx (((σ.set i (some u)).set j (some v)).set l (some w)) H1) : tPar3 i j l tt D σ H := h
theorem i_three {P : V → V → V → Prop} {x y z : V} (h : P x y z) : ∃ u v w, [x, y, z] = [u, v, w] ∧ P u v w := ⟨x, y, z, rfl, h⟩
theorem i_while {c : TT} {tb : TS} {D : Ends} {σ : L2.St} {H : Hp} (W : Nat → L2.St → Hp → Prop) (n : Nat) (h0 : W n σ H)
    (st : ∀ m σ H, W m σ H → c σ H fun b H1 => if b = true then ∃ N : L2.St → Hp → Prop, (∀ σ' H', N σ' H' → ∃ m', m' < m ∧ W m' σ' H') ∧ tb { D with nx := N, ct := N, bk := D.nx } σ H1 else D.nx σ H1) :
    tWhile c tb D σ H := ⟨W, ⟨n, h0⟩, st⟩
theorem i_loop {tb : TS} {D : Ends} {σ : L2.St} {H : Hp} {m : Nat} {W : Nat → L2.St → Hp → Prop}
    (h : tb { D with nx := fun σ' H' => ∃ m', m' < m ∧ W m' σ' H', ct := fun σ' H' => ∃ m', m' < m ∧ W m' σ' H', bk := D.nx } σ H) :
    ∃ N : L2.St → Hp → Prop, (∀ σ' H', N σ' H' → ∃ m', m' < m ∧ W m' σ' H') ∧ tb { D with nx := N, ct := N, bk := D.nx } σ H := ⟨_, fun _ _ h => h, h⟩

/-! ### texts: str(x), methods -/
theorem k_strAny {X : Cx} {K : PySem.W.Frag} (h : X.K = K) : CallR X (.type "str") (fun xs H Q => (∃ i, xs = [.int i] ∧ i.natAbs.log2 < 1920 ∧ Q (.str (toString i)) H) ∨ ∃ a, xs = [.str a] ∧ Q (.str a) H) := by
  intro pins s σ H xs us Q I r q
  rcases q with q | q
  · exact call_str_int pins s σ H xs us Q I r q
  · exact SkE.call_str_str pins s σ H xs us Q I r q
/-! ### a comprehension over a text's signs -/
section
variable {σ : L2.St} {H H1 : Hp} {Q : VK} {g : TG} {tt : TT} {te : TE} {vs : List Nat}
def LcS (x : V) (g : TG) (tt : TT) (te : TE) (vs : List Nat) (σ : L2.St) (H1 : Hp) (Q : VK) : Prop :=
  ∃ z, x = .str z ∧ ∀ D, H1 D = none →
    ∃ W : Nat → Nat → Hp → Prop, (∃ m, W 0 m (upd H1 D (.lst []))) ∧ ∀ i m H, W i m H →
      ((Its z).stop i H ∧ Q (.ref D) H) ∨ ((Its z).go i H ∧ ∃ Nx : Hp → Prop,
        (∀ H', Nx H' → ∃ m', m' < m ∧ W (i + 1) m' H') ∧
        ∀ x H', (Its z).yld i H x H' → g x (wipe σ vs) H' fun σ2 H2 => wipe σ2 vs = wipe σ vs ∧ tt σ2 H2 fun b H3 =>
          if b = true then te σ2 H3 fun y H4 => ∃ acc, H4 D = some (.lst acc) ∧ acc.length < sizeLine ∧
            Nx (upd H4 D (.lst (acc ++ [y]))) else Nx H3)
theorem i_lcS {te' : TE} (h : te' σ H fun x H1 => LcS x g tt te vs σ H1 Q) : tLc (iStr te') g tt te vs σ H Q := h
theorem i_mapS {z : Str} (ys : List V) (hl : ys.length = z.cps.size) (hz : ys.length ≤ 1000000)
    (st : ∀ (D : Addr) (i : Nat) (c : Nat) (y : V) (H' : Hp) (Q' : VK), Fr H D → z.cps[i]? = some c → ys[i]? = some y → Kp [] H H' → (∀ H4, Kp [] H' H4 → Q' y H4) →
      g (.str ⟨#[c]⟩) (wipe σ vs) H' fun σ2 H2 => wipe σ2 vs = wipe σ vs ∧ te σ2 H2 Q')
    (hd : ∀ D H', Fr H D → Kp [] H H' → H' D = some (.lst ys) → Q (.ref D) H') : LcS (.str z) g tYes te vs σ H Q := by
  refine ⟨z, rfl, fun D hD => ⟨fun i m H' => m = z.cps.size - i ∧ i ≤ z.cps.size ∧ Kp [] H H' ∧ H' D = some (.lst (ys.take i)), ⟨_, rfl, Nat.zero_le _, Kp.new ⟨hD⟩, by rw [List.take_zero]; exact upd_same⟩, ?_⟩⟩
  rintro i m H' ⟨rfl, hi, k, e⟩
  by_cases c : i < z.cps.size
  · refine .inr ⟨c, fun H2 => Kp [] H H2 ∧ H2 D = some (.lst (ys.take (i + 1))), fun H2 w => ⟨_, by omega, rfl, c, w.1, w.2⟩, ?_⟩
    rintro x H2 ⟨rfl, cc, hc, rfl⟩
    obtain ⟨y, hy⟩ : ∃ y, ys[i]? = some y := ⟨_, List.getElem?_eq_getElem (by omega)⟩
    exact st D i cc y _ (fun y' H4 => ∃ acc, H4 D = some (.lst acc) ∧ acc.length < sizeLine ∧
      (Kp [] H (upd H4 D (.lst (acc ++ [y']))) ∧ upd H4 D (.lst (acc ++ [y'])) D = some (.lst (ys.take (i + 1))))) ⟨hD⟩ hc hy k (fun H4 k4 => by
        refine ⟨_, k4.at_ _ _ e not_nil, small_sz (by rw [List.length_take]; omega), Kp.upd (Kp.trans k k4) ⟨hD⟩, ?_⟩
        rw [List.take_add_one, hy]
        exact upd_same)
  · have e2 : i = z.cps.size := by omega
    rw [e2, ← hl, List.take_of_length_le (Nat.le_refl _)] at e
    exact .inl ⟨Nat.le_of_not_lt c, hd D H' ⟨hD⟩ k e⟩
end
theorem k_bm {X : Cx} {K : PySem.W.Frag} {T id : String} {name : Str} {r : V → List V → Hp → VK → Prop} {o e : Expr} {es : List Expr} {to : TE} {t : TA} {apos cpos : Pos} (h : X.K = K) (pa : PlainAttrs T) (slot : Slot T name id) (hty : typeOf (.builtin id) = pure (.type "method_descriptor")) (hm : MtR X id r) (ho : PE X o to) (ha : PA X (e :: es) t)
    (hbase : attributeBase o name X.env (eval o X.env) = eval o X.env := by rfl)
    (hfew : ((backTo cpos (starEach (e :: es) X.env)).all (fun x => !x.1) && (backToKw cpos (keywordEach [] X.env)).all (fun x => x.1.isSome)
      && decide ((e :: es).length + ([] : List Keyword).length + (if ([] : List Keyword).isEmpty then 0 else 1) < 30)) = true := by rfl)
    (hline : (apos.endLine == cpos.line) = true := by rfl) (hs : starEach (e :: es) X.env = (false, eval e X.env) :: starEach es X.env := by rfl) (hplain : (backTo cpos (starEach es X.env)).any (·.1) = false := by rfl) :
    PE X (.Call (.Attribute o name apos) (e :: es) [] cpos) (tBM K T r to t) := h ▸ pe_bm pa slot hty hm ho ha hbase hfew hline hs hplain
theorem k_join {X : Cx} {K : PySem.W.Frag} (h : X.K = K) : MtR X "str.join" (fun x xs H Q => ∃ a p, ∃ ys : List Str, x = .str a ∧ xs = [.ref p] ∧ (SqL K H p (ys.map V.str) ∨ SqT K H p (ys.map V.str)) ∧
    (ys.map (·.length)).sum + ys.length * a.length ≤ 16777216 ∧ Q (.str (Txt.join a ys)) H) := h ▸ mt_join
theorem flat_ints (ns : List Int) : (ns.map V.int).all flatV = true := by
  induction ns with
  | nil => rfl
  | cons n ns ih =>
    rw [List.map_cons, List.all_cons, ih]
    rfl

/-! ### is_path, gone_alone -/
def letS (z : Str) : Bool := z.cps.toList.all fun c => decide (c = 101) || decide (c = 121)
theorem str1_eq {c d : Nat} : ((⟨#[c]⟩ : Str) = ⟨#[d]⟩) ↔ c = d := by
  constructor
  · intro h
    injection h with h
    injection h with h
    injection h
  · rintro rfl
    rfl
theorem one_e : (Str.ofString "e") = ⟨#[101]⟩ := by decide +kernel
theorem one_y : (Str.ofString "y") = ⟨#[121]⟩ := by decide +kernel
theorem i_cutB {c : TT} {σ : L2.St} {H : Hp} {QB : Bool → Hp → Prop} (b : Bool) (h : ∀ QB' : Bool → Hp → Prop, QB' b H → c σ H QB') (k : QB b H) : c σ H QB := h QB k
theorem drop_empty {l : List Nat} {u : Nat} : (l.drop u).isEmpty = !decide (u < l.length) := by
  by_cases h : u < l.length
  · rw [decide_eq_true h]
    cases e : l.drop u with
    | nil => rw [List.drop_eq_nil_iff] at e; omega
    | cons _ _ => rfl
  · rw [decide_eq_false h, List.drop_of_length_le (by omega)]
    rfl
def sp_ispath (K : PySem.W.Frag) : Sp := fun vs H Q _ => ∃ z : Str, vs = [.str z] ∧ z.length ≤ 1000 ∧ ∀ H', Kp [] H H' → Q (.bl (letS z)) H'
theorem sc_is_path : FnScope ["thing", "letter"] ["thing"] (defScope s_is_path) :=
  ⟨rfl, rfl, rfl, by decide +kernel, rfl, by decide +kernel, by decide +kernel⟩
theorem ok_is_path {P : Program} {w : World} {K : PySem.W.Frag} {mg : Str → Option Value} {base : Heap} (T : Txt w K mg) :
    FnG P w K mg base 1 T.a_is_path T.d_is_path ["thing"] (sp_ispath K) := by
  refine okD T.F_is_path sc_is_path (fun vs H Q E h => ?_) (fun cdv A outer s H vs Q E hr h => ?_)
  · first
      | (obtain ⟨_, rfl, _⟩ := h; rfl)
      | (obtain ⟨_, _, rfl, _⟩ := h; rfl)
      | (obtain ⟨_, _, _, rfl, _⟩ := h; rfl)
      | (obtain ⟨_, _, _, _, rfl, _⟩ := h; rfl)
      | (obtain ⟨_, _, _, _, _, rfl, _⟩ := h; rfl)
      | (obtain ⟨_, _, _, _, _, _, rfl, _⟩ := h; rfl)
      | (obtain ⟨_, _, _, _, _, _, _, rfl, _⟩ := h; rfl)
      | (obtain ⟨_, _, _, _, _, _, _, _, rfl, _⟩ := h; rfl)
      | (obtain ⟨_, _, _, _, _, _, _, _, _, rfl, _⟩ := h; rfl)
      | (obtain ⟨_, _, _, _, _, _, _, _, _, _, rfl, _⟩ := h; rfl)
      | (obtain ⟨_, _, _, _, _, _, _, _, _, _, _, rfl, _⟩ := h; rfl)
      | (obtain ⟨_, _, _, _, _, _, _, _, _, _, _, _, rfl, _⟩ := h; rfl)
      | (obtain ⟨_, _, _, _, _, _, _, _, _, _, _, _, _, rfl, _⟩ := h; rfl)
      | (obtain ⟨_, _, _, _, _, _, _, _, _, _, _, _, _, _, rfl, _⟩ := h; rfl)
      | (obtain ⟨_, _, _, _, _, _, _, _, _, _, _, _, _, _, _, rfl, _⟩ := h; rfl)
      | (obtain ⟨_, _, _, _, _, _, _, _, _, _, _, _, _, _, _, _, rfl, _⟩ := h; rfl)
      | (obtain ⟨_, _, _, _, _, _, _, _, _, _, _, _, _, _, _, _, _, rfl, _⟩ := h; rfl)
      | (obtain ⟨_, _, _, _, _, _, _, _, _, _, _, _, _, _, _, _, _, _, rfl, _⟩ := h; rfl)
      | (obtain ⟨_, _, _, _, _, _, _, _, _, _, _, _, _, _, _, _, _, _, _, rfl, _⟩ := h; rfl)
  · obtain ⟨z, rfl, lz, k⟩ := h
    refine ⟨_, (pss_one (ps_ret (pe_and (pe_callB (k_isi (K := K) rfl) (by rfl) T.n_isinstance (by decide +kernel) (pa_cons (pv 0) (pa_cons (pe_bltn (v := .ty "str") (by rfl) T.n_str (by decide +kernel) rfl) pa_nil))) (pe_one (pe_callB (k_all (K := K) rfl rfl) (by rfl) T.n_all (by decide +kernel) (pa_cons (pe_lc (own := [("letter", 1)]) (g := (gName 1)) (tt := tYes) rfl sc_is_path.nd (pi_str (pv 0)) (blkOk_by (own := [("letter", 1)]) (N := ["thing", "letter"]) (sc := defScope s_is_path) (by decide +kernel)) (fun _ _ _ _ _ => (pg_name (i := 1) sc_is_path.nd rfl (Or.inl rfl))) (fun _ _ _ _ _ => pts_nil) (fun _ _ _ _ _ => (pe_cmpR (k_in (K := K) rfl) (pv 1) (pe_tup (pa_cons (pe_glob (v := V.str "e") rfl T.g_ELDER ⟨_, rfl⟩) (pa_cons (pe_glob (v := V.str "y") rfl T.g_YOUNGER ⟨_, rfl⟩) pa_nil))) (rfl)))) pa_nil)))))), ?_⟩
    dsimp only [cxOf, st_1, st_2, st_3, st_4, st_5, st_6, List.length_cons, List.length_nil, List.replicate_succ, List.replicate_zero, Nat.reduceAdd, Nat.reduceSub]
    walk_at "gs"
    refine ⟨.str z, .ty "str", _, _, true, rfl, .ty "str", .base (.str _), L2.kit_ty (by decide), ?_⟩
    walk_at "gs"
    refine i_lcS ?_
    walk_at "gs"
    have sz : z.cps.size ≤ 1000 := lz
    refine i_mapS ((z.cps.toList.map fun c => decide (c = 101) || decide (c = 121)).map V.bl) (by rw [List.length_map, List.length_map, Array.length_toList]) (by rw [List.length_map, List.length_map, Array.length_toList]; omega) ?_ ?_
    · intro D i c y H' Q' fD hc hy kk q
      have hy : V.bl (decide (c = 101) || decide (c = 121)) = y := by
        rw [List.getElem?_map, List.getElem?_map, Array.getElem?_toList, hc] at hy
        exact Option.some.inj hy
      subst hy
      walk_at "gs"
      refine i_new fun t ft => ?_
      have kt : Kp [] H' (upd H' t (.tup [V.str (Str.ofString "e"), V.str (Str.ofString "y")])) := Kp.new ft
      have ht : SqT K (upd H' t (.tup [V.str (Str.ofString "e"), V.str (Str.ofString "y")])) t [V.str (Str.ofString "e"), V.str (Str.ofString "y")] := SqT.of upd_same
      walk_at "gs"
      refine ⟨t, _, rfl, .inr ht, rfl, rfl, ?_⟩
      simp only [Bool.false_eq_true, if_false]
      rw [inV2, one_e, one_y]
      simp only [str1_eq]
      exact q _ kt
    intro D H1 fD k1 hD
    walk_at "gs"
    refine i_all (SqL.of hD) ?_
    rw [List.all_map]
    exact k H1 k1
/-- how it stands at last -/
def stateT (s : LS) : Str := if s.rest = "" then "fork" else s.rest
def sp_gone (K : PySem.W.Frag) (CP CM CL NP : Addr) : Sp := fun vs H Q E => ∃ (p R : Addr) (n : Int) (xs : List V) (rs : List (Str × List Int)) (z : Str) (most : Nat) (sF : LS) (zF : List Nat), vs = [.ref p, .str z, .int most] ∧ CL ≠ CM ∧ ProgAt CP H p R n xs ∧ DpAll K H xs (rs.map rowD) ∧ (1 ≤ n ∧ n ≤ 1000000000000000000) ∧
  RsOk rs n ∧ SmallR rs ∧ rs.length ≤ 1000 ∧ z.length ≤ 1000 ∧ letS z = true ∧ most ≤ 1000 ∧ goS rs most (beginS rs n) z.cps.toList = some (sF, zF) ∧
  (zF ≠ [] → ∀ H', Kp [] H H' → E (.ref NP) none H') ∧ (zF = [] → ∀ t NL RN H', Fr H t → Fr H NL → Fr H RN → NL ≠ RN → Kp [] H H' → SqT K H' t [.str (stateT sF), .ref NL, .ref RN] → H' NL = some (.lst (sF.told.map V.int)) → LD K H' RN ((rle sF.cs).map d2) → Q (.ref t) H')
theorem sc_gone_alone : FnScope ["program", "path", "most", "lone", "used", "done", "younger"] ["program", "path", "most"] (defScope s_gone_alone) :=
  ⟨rfl, rfl, rfl, by decide +kernel, rfl, by decide +kernel, by decide +kernel⟩
theorem ok_gone_alone {P : Program} {w : World} {K : PySem.W.Frag} {mg : Str → Option Value} {base : Heap} (T : Txt w K mg) :
    FnG P w K mg base 10 T.a_gone_alone T.d_gone_alone ["program", "path", "most"] (sp_gone K T.c_Program T.c_Memory T.c_Lone T.x_NoPath) := by
  refine okD T.F_gone_alone sc_gone_alone (fun vs H Q E h => ?_) (fun cdv A outer s H vs Q E hr h => ?_)
  · first
      | (obtain ⟨_, rfl, _⟩ := h; rfl)
      | (obtain ⟨_, _, rfl, _⟩ := h; rfl)
      | (obtain ⟨_, _, _, rfl, _⟩ := h; rfl)
      | (obtain ⟨_, _, _, _, rfl, _⟩ := h; rfl)
      | (obtain ⟨_, _, _, _, _, rfl, _⟩ := h; rfl)
      | (obtain ⟨_, _, _, _, _, _, rfl, _⟩ := h; rfl)
      | (obtain ⟨_, _, _, _, _, _, _, rfl, _⟩ := h; rfl)
      | (obtain ⟨_, _, _, _, _, _, _, _, rfl, _⟩ := h; rfl)
      | (obtain ⟨_, _, _, _, _, _, _, _, _, rfl, _⟩ := h; rfl)
      | (obtain ⟨_, _, _, _, _, _, _, _, _, _, rfl, _⟩ := h; rfl)
      | (obtain ⟨_, _, _, _, _, _, _, _, _, _, _, rfl, _⟩ := h; rfl)
      | (obtain ⟨_, _, _, _, _, _, _, _, _, _, _, _, rfl, _⟩ := h; rfl)
      | (obtain ⟨_, _, _, _, _, _, _, _, _, _, _, _, _, rfl, _⟩ := h; rfl)
      | (obtain ⟨_, _, _, _, _, _, _, _, _, _, _, _, _, _, rfl, _⟩ := h; rfl)
      | (obtain ⟨_, _, _, _, _, _, _, _, _, _, _, _, _, _, _, rfl, _⟩ := h; rfl)
      | (obtain ⟨_, _, _, _, _, _, _, _, _, _, _, _, _, _, _, _, rfl, _⟩ := h; rfl)
      | (obtain ⟨_, _, _, _, _, _, _, _, _, _, _, _, _, _, _, _, _, rfl, _⟩ := h; rfl)
      | (obtain ⟨_, _, _, _, _, _, _, _, _, _, _, _, _, _, _, _, _, _, rfl, _⟩ := h; rfl)
      | (obtain ⟨_, _, _, _, _, _, _, _, _, _, _, _, _, _, _, _, _, _, _, rfl, _⟩ := h; rfl)
  · obtain ⟨p, R, n, xs, rs, z, most, sF, zF, rfl, no, hp, da, hn, ok, sm, lr, lz, lt, lm, go, kE, kQ⟩ := h
    have hn2 : (n.toNat : Int) = n := Int.toNat_of_nonneg (by omega)
    have big : (1000000 : Nat) ≤ sizeLine := by decide
    have cl_Memory := T.cl_Memory
    have na_Memory_pairs := T.na_Memory_pairs
    have na_Memory_wide := T.na_Memory_wide
    have cl_Lone := T.cl_Lone
    have na_Lone_all_rows := T.na_Lone_all_rows
    have na_Lone_cells := T.na_Lone_cells
    have na_Lone_next_row := T.na_Lone_next_row
    have na_Lone_numbers := T.na_Lone_numbers
    have na_Lone_rested := T.na_Lone_rested
    have cl_Program := T.cl_Program
    have na_Program_own_rows := T.na_Program_own_rows
    have na_Program_own_size := T.na_Program_own_size
    refine ⟨_, (pss_cons (ps_if (pt_not (pt_val (d1 (ok_is_path T) (hr.mono (by decide)) (by rfl) T.m_is_path T.F_is_path.kp T.b_is_path passL (pa_cons (pv 1) pa_nil)))) (pss_one (ps_raise rfl (takes_of rfl rfl rfl rfl) (pmk_own PySem.F.excBase_ValueError T.en_NoPath T.mx_NoPath T.ek_NoPath (raises_own T.ec_NoPath.hs T.et_NoPath) rfl))) pss_nil)
      (pss_cons (ps_set (i := 3) sc_gone_alone.nd rfl (Or.inl rfl) (mk1 T.mk_Lone (ok_Lone_init T) (hr.mono (by decide)) (by rfl) T.mg_Lone T.b_Lone_init passL (pa_cons (pv 0) pa_nil)))
      (pss_cons (ps_asg (pe_tup (pa_cons pe_int (pa_cons pe_int pa_nil))) (k_gtup (K := K) 2 rfl rfl (pgs_cons (pg_name (i := 4) sc_gone_alone.nd rfl (Or.inl rfl)) (pgs_cons (pg_name (i := 5) sc_gone_alone.nd rfl (Or.inl rfl)) pgs_nil))))
      (pss_cons (ps_while (passes_of rfl) (PW.pt (pw_and (pt_cmpR (k_eq (K := K) rfl hr.r.units) (k_fld (K := K) rfl (pv 3) rfl) pe_str (nomark _)) (pw_and1 (PW.pt (pw_or (pt_cmpR op_lt (pv 4) (pe_callB (k_len (K := K) rfl) (by rfl) T.n_len (by decide +kernel) (pa_cons (pv 1) pa_nil)) (nomark _)) (pw_or1 (pt_not (pt_val (dm0 T.cl_Lone T.me_Lone_is_at_fork (ok_Lone_is_at_fork T) (hr.mono (by decide)) T.b_Lone_is_at_fork passL (pv 3)))))))))) (pss_cons (ps_if (pt_cmpR (k_eq (K := K) rfl hr.r.units) (pv 5) (pv 2) (nomark _)) (pss_one ps_never) pss_nil)
      (pss_cons (ps_aug (i := 5) sc_gone_alone.nd rfl (Or.inl rfl) pe_int ip_add)
      (pss_one (ps_if (pt_val (dm0 T.cl_Lone T.me_Lone_is_at_fork (ok_Lone_is_at_fork T) (hr.mono (by decide)) T.b_Lone_is_at_fork passL (pv 3))) (pss_cons (ps_set (i := 6) sc_gone_alone.nd rfl (Or.inl rfl) (dm T.cl_Lone T.me_Lone_parted (ok_Lone_parted T) (hr.mono (by decide)) T.b_Lone_parted passL (pv 3) (pa_cons (pv 0) pa_nil)))
      (pss_cons (ps_set (i := 3) sc_gone_alone.nd rfl (Or.inl rfl) (pe_ifExp (pt_cmpR (k_eq (K := K) rfl hr.r.units) (pe_ix ix_str (pv 1) (pv 4) (fun _ _ => rfl)) (pe_glob (v := V.str "y") rfl T.g_YOUNGER ⟨_, rfl⟩) (nomark _)) (pv 6) (pv 3)))
      (pss_one (ps_aug (i := 4) sc_gone_alone.nd rfl (Or.inl rfl) pe_int ip_add)))) (pss_one (ps_expr (dm0 T.cl_Lone T.me_Lone_step (ok_Lone_step T) (hr.mono (by decide)) T.b_Lone_step passL (pv 3)))))))))
      (pss_cons (ps_if (pt_cmpR op_lt (pv 4) (pe_callB (k_len (K := K) rfl) (by rfl) T.n_len (by decide +kernel) (pa_cons (pv 1) pa_nil)) (nomark _)) (pss_one (ps_raise rfl (takes_of rfl rfl rfl rfl) (pmk_own PySem.F.excBase_ValueError T.en_NoPath T.mx_NoPath T.ek_NoPath (raises_own T.ec_NoPath.hs T.et_NoPath) rfl))) pss_nil)
      (pss_one (ps_ret (pe_tup (pa_cons (pe_ifExp (pt_cmpR (k_ne (K := K) rfl hr.r.units) (k_fld (K := K) rfl (pv 3) rfl) pe_str (nomark _)) (k_fld (K := K) rfl (pv 3) rfl) (pe_glob (v := V.str "fork") rfl T.g_FORK ⟨_, rfl⟩)) (pa_cons (k_fld (K := K) rfl (pv 3) rfl) (pa_cons (dm0 T.cl_Memory T.me_Memory_runs (ok_Memory_runs T) (hr.mono (by decide)) T.b_Memory_runs passL (k_fld (K := K) rfl (pv 3) rfl)) pa_nil))))))))))), ?_⟩
    dsimp only [cxOf, st_1, st_2, st_3, st_4, st_5, st_6, List.length_cons, List.length_nil, List.replicate_succ, List.replicate_zero, Nat.reduceAdd, Nat.reduceSub]
    walk_at "gs"
    refine ⟨z, rfl, lz, fun H1 k1 => ?_⟩
    rw [lt]
    walk_at "gs"
    refine i_made fun a0 d0 fa0 fd0 nd0 => ?_
    have k10 : Kp [] H1 (upd (upd H1 d0 (.own a0)) a0 (.ins T.c_Lone d0 [])) := Kp.upd (Kp.new fd0) fa0
    have k010 := Kp.trans k1 k10
    refine ⟨a0, p, R, d0, n, xs, rs, rfl, no, upd_same, hp.kp0 k010, dpa_imm k010 _ _ (rowsD_imm rs) da, hn, ok, fun RL0 m0 N0 H2 fRL0 fm0 fN0 kk L0 => ⟨rfl, ?_⟩⟩
    have k12 := kp_made fa0 fd0 kk
    have k02 := Kp.trans k1 k12
    walk_at "gs"
    refine i_new fun t0 ft0 => ?_
    have kt0 : Kp [] H2 (upd H2 t0 (.tup [V.int 0, V.int 0])) := Kp.new ft0
    walk_at "gs"
    have k03 := Kp.trans k02 kt0
    have L0 := L0.kp0 kt0
    refine i_while (fun m σ H' => ∃ (a RL mm NL : Addr) (s : LS) (j u : Nat) (o : Option V), m = most - j ∧ σ = [some (.ref p), some (.str z), some (.int most), some (.ref a), some (.int u), some (.int j), o] ∧ Kp [] H H' ∧ Fr H a ∧ Fr H mm ∧ Fr H NL ∧ LoneAt K T.c_Memory T.c_Lone H' a RL mm NL rs s ∧ SOk rs n.toNat j s ∧ j ≤ most ∧ u ≤ z.length ∧ goS rs (most - j) s (z.cps.toList.drop u) = some (sF, zF)) most ?_ ?_
    · exact ⟨a0, RL0, m0, N0, beginS rs n, 0, 0, none, rfl, rfl, k03, k1.free fa0, k010.free fm0, k010.free fN0, L0, begin_ok hn.1, Nat.zero_le _, Nat.zero_le _, go⟩
    · rintro m σ H' ⟨a, RL, mm, NL, s, j, u, o, rfl, rfl, k', fa, fm, fN, L, S, jm, uz, g⟩
      obtain ⟨dx, ha⟩ := L.ins
      have zl : z.cps.toList.length = z.length := Array.length_toList
      obtain ⟨zs, ezs⟩ : ∃ zs, zs = z.cps.toList.drop u := ⟨_, rfl⟩
      have ez : zs.isEmpty = !decide (u < z.length) := by rw [ezs, drop_empty, zl]
      rw [← ezs] at g
      refine i_cutB (goes rs s zs) (fun QB q => ?_) ?_
      · unfold goes at q
        rw [ez, Bool.not_not] at q
        walk_at "gs"
        refine i_dec (fun r => ?_) (fun r => ?_)
        · rw [decide_eq_true r, Bool.true_and] at q
          obtain ⟨i, qr, ei, hi, hq, er, hm⟩ := S.row r
          walk_at "gs"
          refine i_lenS (by omega) ?_
          walk_at "gs"
          refine i_dec (fun c => ?_) (fun c => ?_)
          · have c' : u < z.length := by omega
            rw [decide_eq_true c', Bool.true_or] at q
            exact q
          · have c' : ¬ u < z.length := by omega
            rw [decide_eq_false c', Bool.false_or] at q
            walk_at "gs"
            refine ⟨a, RL, mm, NL, rs, s, rfl, L, .inr ⟨i, ei, hi⟩, ?_⟩
            exact ⟨_, rfl, q⟩
        · rw [decide_eq_false r, Bool.false_and] at q
          exact q
      cases hg : goes rs s zs with
      | false =>
        rw [if_neg (by decide)]
        rw [goS_end hg] at g
        cases g
        walk_at "gs"
        refine i_lenS (by omega) ?_
        walk_at "gs"
        refine i_dec (fun c => ?_) (fun c => ?_)
        · walk_at "gs"
          refine kE (fun e => ?_) H' k'
          rw [e] at ez
          have c' : u < z.length := by omega
          rw [decide_eq_true c'] at ez
          cases ez
        have e0 : zF = [] := by
          have c' : ¬ u < z.length := by omega
          rw [decide_eq_false c'] at ez
          exact List.isEmpty_iff.mp ez
        have few := S.few
        obtain ⟨dm, lm2, hm2, _⟩ := id L.mem
        walk_at "gs"
        refine i_decN (fun r => ?_) (fun r => ?_)
        · have est : stateT sF = sF.rest := by
            unfold stateT
            rw [if_neg r]
          walk_at "gs"
          refine ⟨mm, sF.cs, rfl, L.mem, fun RN H5 fRN kR lR => ?_⟩
          walk_at "gs"
          refine i_new fun t ft => ?_
          have kt : Kp [] H5 (upd H5 t (.tup [.str sF.rest, .ref NL, .ref RN])) := Kp.new ft
          have k5t := Kp.trans kR kt
          exact kQ e0 t NL RN _ (k'.free (kR.free ft)) fN (k'.free fRN) (fr_ne L.nums fRN) (Kp.trans k' k5t) (by rw [est]; exact SqT.of upd_same) (k5t.at_ _ _ L.nums not_nil) (lR.kp kt (imms_d2 _) not_nil)
        · have est : stateT sF = "fork" := by
            unfold stateT
            rw [if_pos r]
          walk_at "gs"
          refine ⟨mm, sF.cs, rfl, L.mem, fun RN H5 fRN kR lR => ?_⟩
          walk_at "gs"
          refine i_new fun t ft => ?_
          have kt : Kp [] H5 (upd H5 t (.tup [.str "fork", .ref NL, .ref RN])) := Kp.new ft
          have k5t := Kp.trans kR kt
          exact kQ e0 t NL RN _ (k'.free (kR.free ft)) fN (k'.free fRN) (fr_ne L.nums fRN) (Kp.trans k' k5t) (by rw [est]; exact SqT.of upd_same) (k5t.at_ _ _ L.nums not_nil) (lR.kp kt (imms_d2 _) not_nil)
      | true =>
        rw [if_pos rfl]
        have r : s.rest = "" := by
          unfold goes at hg
          exact of_decide_eq_true (Bool.and_eq_true_iff.mp hg).1
        obtain ⟨i, qr, ei, hi, hq, er, hm⟩ := S.row r
        obtain ⟨f, ef, g2⟩ := goS_on hg g
        refine i_loop ?_
        walk_at "gs"
        refine i_dec (fun c => absurd c (by omega)) (fun _ => ?_)
        walk_at "gs"
        refine ⟨a, RL, mm, NL, rs, s, rfl, L, .inr ⟨i, ei, hi⟩, ?_⟩
        have few := S.few
        have tf := S.tf
        have hp' := hp.kp0 k'
        have da' := dpa_imm k' _ _ (rowsD_imm rs) da
        have S2 := S.next hn2 ok sm r (zs := zs)
        refine ⟨_, rfl, ?_⟩
        cases haf : atFork rs s with
        | true =>
          have uz2 : u < z.length := by
            refine Decidable.by_contra fun c => ?_
            unfold goes at hg
            rw [ez, decide_eq_false c, haf] at hg
            simp at hg
          rw [if_pos rfl]
          walk_at "gs"
          refine ⟨a, RL, mm, NL, p, R, n, xs, rs, s, i, rfl, no, L, hp', da', hn, S.len, ok, ei, hi, haf, by omega, by omega, fun a2 RL2 m2 NL2 H4 fa2 fm2 fN2 nn k4 L4 L5 => ?_⟩
          walk_at "gs"
          obtain ⟨c, hc⟩ : ∃ c, z.cps.toList[u]? = some c := ⟨_, List.getElem?_eq_getElem (by omega)⟩
          have hat : atI z.cps.toList (u : Int) = some c := atI_nat hc
          refine ⟨z, u, c, rfl, rfl, by omega, hat, ?_⟩
          have ec : zs = c :: z.cps.toList.drop (u + 1) := by
            rw [ezs, List.drop_eq_getElem?_toList_append, hc]
            rfl
          have e3 : nextS rs s zs = if c = 121 then youngS rs s else elderS rs s := by
            unfold nextS
            rw [haf, if_pos rfl, ec]
            rfl
          have e4 : nextZ rs s zs = z.cps.toList.drop (u + 1) := by
            unfold nextZ
            rw [haf, if_pos rfl, ec]
            rfl
          have k5 := Kp.own k4 k' (fun b hb => by
            rw [List.mem_singleton.mp hb]
            exact fa)
          have hf : most - (j + 1) = f := by omega
          walk_at "gs"
          refine i_dec (fun cy => ?_) (fun cy => ?_)
          · have cy : c = 121 := by
              rw [one_y] at cy
              exact str1_eq.mp cy
            rw [if_pos cy] at e3
            walk_at "gs"
            refine ⟨most - (j + 1), by omega, a2, RL2, m2, NL2, nextS rs s zs, j + 1, u + 1, _, rfl, rfl, k5, k'.free fa2, k'.free fm2, k'.free fN2, by rw [e3]; exact L5, S2, by omega, by omega, ?_⟩
            rw [hf, ← e4]
            exact g2
          · have cy : ¬ c = 121 := fun z => cy (by
              rw [one_y, z])
            rw [if_neg cy] at e3
            walk_at "gs"
            refine ⟨most - (j + 1), by omega, a, RL, mm, NL, nextS rs s zs, j + 1, u + 1, _, rfl, rfl, k5, fa, fm, fN, by rw [e3]; exact L4, S2, by omega, by omega, ?_⟩
            rw [hf, ← e4]
            exact g2
        | false =>
          rw [if_neg (by decide)]
          walk_at "gs"
          have e3 : nextS rs s zs = stepS rs s := by
            unfold nextS
            rw [haf, if_neg (by decide)]
          have e4 : nextZ rs s zs = zs := by
            unfold nextZ
            rw [haf, if_neg (by decide)]
          have le : (s.cs.length : Int) = n := by rw [S.len, hn2]
          refine ⟨a, RL, mm, NL, rs, s, i, rfl, no, L, ei, hi, haf, by rw [le]; exact ok, by omega, by omega, fun H4 k4 L4 => ?_⟩
          walk_at "gs"
          have k5 := Kp.own k4 k' (fun b hb => by
            rcases List.mem_cons.mp hb with e | hb
            · rw [e]; exact fa
            rcases List.mem_cons.mp hb with e | hb
            · rw [e]; exact fm
            · rw [List.mem_singleton.mp hb]; exact fN)
          refine ⟨most - (j + 1), by omega, a, RL, mm, NL, nextS rs s zs, j + 1, u, _, rfl, rfl, k5, fa, fm, fN, by rw [e3]; exact L4, S2, by omega, uz, ?_⟩
          rw [e4] at g2
          rw [show most - (j + 1) = f by omega, ← ezs]
          exact g2

/-! ### rows that fit (lines of k71's pieces) -/
def okN (n : Int) : Prop := -1000000000000000000000000000000000000000000000000000000000000 ≤ n ∧ n ≤ 1000000000000000000000000000000000000000000000000000000000000
/-- a row of a program, its numbers not too great -/
def Row (size many : Int) (d : PyData) : Prop := ∃ (w : Str) (es : List PyData), d = .tuple (.str w :: es) ∧ w ∈ kv_SHAPES.map (·.1) ∧ es.length ≤ 3 ∧ rowOk d size many = true ∧ ∀ e ∈ es, ∃ n, e = .int n ∧ okN n
theorem rowOk_of {w s : Str} {es : List PyData} {size many : Int} (h : (w, s) ∈ kv_SHAPES) (l : es.length = (sgn s).length) (f : fitAll (sgn s) es size many = true) (g : w = "fill" → leFill es = true) : rowOk (.tuple (.str w :: es)) size many = true := by
  simp only [rowOk]
  rw [(kv_look h).1]
  simp only
  unfold rowTail
  rw [decide_eq_true l, f, Bool.true_and, Bool.true_and, Bool.or_eq_true]
  by_cases c : w = "fill"
  · exact .inr (g c)
  · exact .inl (decide_eq_true c)
theorem row_of {w s : Str} {es : List PyData} {size many : Int} (h : (w, s) ∈ kv_SHAPES) (l : es.length = (sgn s).length) (f : fitAll (sgn s) es size many = true) (g : w = "fill" → leFill es = true)
    (o : ∀ e ∈ es, ∃ n, e = .int n ∧ okN n) : Row size many (.tuple (.str w :: es)) :=
  ⟨w, es, rfl, List.mem_map.mpr ⟨_, h, rfl⟩, by have := (kv_look h).2.2.1; omega, rowOk_of h l f g, o⟩
theorem fit_c {n size many : Int} (h : 0 ≤ n ∧ n < size) : fitS "c" (.int n) size many = true := by
  have e1 : ((Str.ofString "c") = (Str.ofString "n")) = False := by rw [eq_iff_iff]; decide +kernel
  unfold fitS limS
  simp only [e1, if_false, if_true]
  exact decide_eq_true h
theorem fit_n {n size many : Int} : fitS "n" (.int n) size many = true := by
  unfold fitS
  simp only [if_true]
theorem fit_r {n size many : Int} (h : 0 ≤ n ∧ n ≤ many) : fitS "r" (.int n) size many = true := by
  have e1 : ((Str.ofString "r") = (Str.ofString "n")) = False := by rw [eq_iff_iff]; decide +kernel
  have e2 : ((Str.ofString "r") = (Str.ofString "c")) = False := by rw [eq_iff_iff]; decide +kernel
  unfold fitS limS
  simp only [e1, e2, if_false, if_true]
  exact decide_eq_true ⟨h.1, by omega⟩
theorem fit_b {s : Str} {n size many : Int} (hs : s = Str.ofString "b" ∨ s = Str.ofString "e") (h : 0 ≤ n ∧ n ≤ size) : fitS s (.int n) size many = true := by
  have e1 : (s = (Str.ofString "n")) = False := by rw [eq_iff_iff]; rcases hs with rfl | rfl <;> decide +kernel
  have e2 : (s = (Str.ofString "c")) = False := by rw [eq_iff_iff]; rcases hs with rfl | rfl <;> decide +kernel
  have e3 : (s = (Str.ofString "r")) = False := by rw [eq_iff_iff]; rcases hs with rfl | rfl <;> decide +kernel
  unfold fitS limS
  simp only [e1, e2, e3, if_false]
  exact decide_eq_true ⟨h.1, by omega⟩
theorem fa0 {size many : Int} : fitAll [] [] size many = true := rfl
theorem fa1 {s : Str} {a : PyData} {ss : List Str} {ds : List PyData} {size many : Int} (h : fitS s a size many = true) (t : fitAll ss ds size many = true) : fitAll (s :: ss) (a :: ds) size many = true := by
  have e : fitAll (s :: ss) (a :: ds) size many = (fitS s a size many && fitAll ss ds size many) := rfl
  rw [e, h, t]
  rfl
def cellOk (c size : Int) : Prop := 0 ≤ c ∧ c < size
theorem cellOk.n {c size : Int} (h : cellOk c size) (z : size ≤ 1000000000000000000) : okN c := ⟨by have := h.1; omega, by have := h.2; omega⟩
theorem ok1 {a : Int} (h : okN a) : ∀ e ∈ [PyData.int a], ∃ n, e = .int n ∧ okN n := fun e he => by
  obtain rfl := List.mem_singleton.mp he
  exact ⟨_, rfl, h⟩
theorem ok2 {a b : Int} (h : okN a) (g : okN b) : ∀ e ∈ [PyData.int a, .int b], ∃ n, e = .int n ∧ okN n := fun e he => by
  rcases List.mem_cons.mp he with rfl | he
  · exact ⟨_, rfl, h⟩
  · exact ok1 g e he
theorem ok3 {a b c : Int} (h : okN a) (g : okN b) (k : okN c) : ∀ e ∈ [PyData.int a, .int b, .int c], ∃ n, e = .int n ∧ okN n := fun e he => by
  rcases List.mem_cons.mp he with rfl | he
  · exact ⟨_, rfl, h⟩
  · exact ok2 g k e he
theorem row_cn {w : Str} {c n size many : Int} (h : (w, Str.ofString "cn") ∈ kv_SHAPES) (nf : w ≠ "fill") (hc : cellOk c size) (hn : okN n) (z : size ≤ 1000000000000000000) : Row size many (.tuple [.str w, .int c, .int n]) :=
  row_of h (by rw [sg_cn]; rfl) (by rw [sg_cn]; exact fa1 (fit_c hc) (fa1 fit_n fa0)) (fun e => absurd e nf) (ok2 (hc.n z) hn)
theorem row_cc {w : Str} {c d size many : Int} (h : (w, Str.ofString "cc") ∈ kv_SHAPES) (nf : w ≠ "fill") (hc : cellOk c size) (hd : cellOk d size) (z : size ≤ 1000000000000000000) : Row size many (.tuple [.str w, .int c, .int d]) :=
  row_of h (by rw [sg_cc]; rfl) (by rw [sg_cc]; exact fa1 (fit_c hc) (fa1 (fit_c hd) fa0)) (fun e => absurd e nf) (ok2 (hc.n z) (hd.n z))
theorem row_c {w : Str} {c size many : Int} (h : (w, Str.ofString "c") ∈ kv_SHAPES) (nf : w ≠ "fill") (hc : cellOk c size) (z : size ≤ 1000000000000000000) : Row size many (.tuple [.str w, .int c]) :=
  row_of h (by rw [sg_c]; rfl) (by rw [sg_c]; exact fa1 (fit_c hc) fa0) (fun e => absurd e nf) (ok1 (hc.n z))
theorem row_r {w : Str} {r size many : Int} (h : (w, Str.ofString "r") ∈ kv_SHAPES) (nf : w ≠ "fill") (hr : 0 ≤ r ∧ r ≤ many) (z : many ≤ 1000) : Row size many (.tuple [.str w, .int r]) :=
  row_of h (by rw [sg_r]; rfl) (by rw [sg_r]; exact fa1 (fit_r hr) fa0) (fun e => absurd e nf) (ok1 ⟨by omega, by omega⟩)
theorem row_0 {w : Str} {size many : Int} (h : (w, Str.ofString "") ∈ kv_SHAPES) (nf : w ≠ "fill") : Row size many (.tuple [.str w]) :=
  row_of h (by rw [sg_0]; rfl) (by rw [sg_0]; exact fa0) (fun e => absurd e nf) (fun _ h => nomatch h)
theorem row_ccr {w : Str} {c d r size many : Int} (h : (w, Str.ofString "ccr") ∈ kv_SHAPES) (nf : w ≠ "fill") (hc : cellOk c size) (hd : cellOk d size) (hr : 0 ≤ r ∧ r ≤ many) (z : size ≤ 1000000000000000000) (z2 : many ≤ 1000) : Row size many (.tuple [.str w, .int c, .int d, .int r]) :=
  row_of h (by rw [sg_ccr]; rfl) (by rw [sg_ccr]; exact fa1 (fit_c hc) (fa1 (fit_c hd) (fa1 (fit_r hr) fa0))) (fun e => absurd e nf) (ok3 (hc.n z) (hd.n z) ⟨by omega, by omega⟩)
theorem row_bec {b e c size many : Int} (hb : 0 ≤ b ∧ b ≤ e) (he : e ≤ size) (hc : cellOk c size) (z : size ≤ 1000000000000000000) : Row size many (.tuple [.str "fill", .int b, .int e, .int c]) :=
  row_of (s := Str.ofString "bec") (by decide +kernel) (by rw [sg_bec]; rfl) (by rw [sg_bec]; exact fa1 (fit_b (.inl rfl) ⟨hb.1, by omega⟩) (fa1 (fit_b (.inr rfl) ⟨by omega, he⟩) (fa1 (fit_c hc) fa0))) (fun _ => decide_eq_true hb.2) (ok3 ⟨by omega, by omega⟩ ⟨by omega, by omega⟩ (hc.n z))
def isFork : PyData → Bool
  | .tuple (.str w :: _) => decide (w = "fork")
  | _ => false
theorem Row.imm {size many : Int} {d : PyData} (r : Row size many d) : imm d = true := by
  obtain ⟨w, es, rfl, _, _, _, o⟩ := r
  have all : ∀ l : List PyData, (∀ e ∈ l, ∃ n, e = .int n ∧ okN n) → imms l = true := by
    intro l
    induction l with
    | nil => intro _; rfl
    | cons e l ih =>
      intro h
      obtain ⟨n, rfl, _⟩ := h e List.mem_cons_self
      simp only [imms, G.imm, Bool.true_and]
      exact ih fun x hx => h x (List.mem_cons_of_mem _ hx)
  simp only [G.imm, imms, Bool.true_and]
  exact all es o
theorem rows_imm {size many : Int} : ∀ {ds : List PyData}, (∀ d ∈ ds, Row size many d) → imms ds = true
  | [], _ => rfl
  | d :: ds, h => by
    simp only [imms]
    rw [(h d List.mem_cons_self).imm, rows_imm fun x hx => h x (List.mem_cons_of_mem _ hx)]
    rfl
theorem filter_stp {α : Type} {f : α → Bool} {l : List α} {i : Nat} {x : α} (h : l[i]? = some x) : (l.take (i + 1)).filter f = (l.take i).filter f ++ (if f x = true then [x] else []) := by
  rw [List.take_add_one, h, List.filter_append]
  congr 1
  show [x].filter f = _
  rw [List.filter_cons]
  rfl

/-! ### pots and draws -/
def sp_law_pot (K : PySem.W.Frag) : Sp := fun vs H Q _ => ∃ (a : Addr) (ns : List Int) (i : Nat),
  vs = [.ref a, .int i] ∧ SqL K H a (ns.map V.int) ∧ i ≤ 100 ∧
  ∀ p H', Fr H p → Kp [] H H' → PotAt H' p → Q (.ref p) H'
theorem sc_law_pot : FnScope ["_law_script", "_law_k", "_law_cell_here"] ["_law_script", "_law_k"] (defScope s_law_pot) :=
  ⟨rfl, rfl, rfl, by decide +kernel, rfl, by decide +kernel, by decide +kernel⟩
theorem ok_law_pot {P : Program} {w : World} {K : PySem.W.Frag} {mg : Str → Option Value} {base : Heap} (T : Txt w K mg) :
    FnG P w K mg base 1 T.a_law_pot T.d_law_pot ["_law_script", "_law_k"] (sp_law_pot K) := by
  refine okD T.F_law_pot sc_law_pot (fun vs H Q E h => ?_) (fun cdv A outer s H vs Q E hr h => ?_)
  · first
      | (obtain ⟨_, rfl, _⟩ := h; rfl)
      | (obtain ⟨_, _, rfl, _⟩ := h; rfl)
      | (obtain ⟨_, _, _, rfl, _⟩ := h; rfl)
      | (obtain ⟨_, _, _, _, rfl, _⟩ := h; rfl)
      | (obtain ⟨_, _, _, _, _, rfl, _⟩ := h; rfl)
      | (obtain ⟨_, _, _, _, _, _, rfl, _⟩ := h; rfl)
      | (obtain ⟨_, _, _, _, _, _, _, rfl, _⟩ := h; rfl)
      | (obtain ⟨_, _, _, _, _, _, _, _, rfl, _⟩ := h; rfl)
      | (obtain ⟨_, _, _, _, _, _, _, _, _, rfl, _⟩ := h; rfl)
      | (obtain ⟨_, _, _, _, _, _, _, _, _, _, rfl, _⟩ := h; rfl)
      | (obtain ⟨_, _, _, _, _, _, _, _, _, _, _, rfl, _⟩ := h; rfl)
      | (obtain ⟨_, _, _, _, _, _, _, _, _, _, _, _, rfl, _⟩ := h; rfl)
      | (obtain ⟨_, _, _, _, _, _, _, _, _, _, _, _, _, rfl, _⟩ := h; rfl)
      | (obtain ⟨_, _, _, _, _, _, _, _, _, _, _, _, _, _, rfl, _⟩ := h; rfl)
      | (obtain ⟨_, _, _, _, _, _, _, _, _, _, _, _, _, _, _, rfl, _⟩ := h; rfl)
      | (obtain ⟨_, _, _, _, _, _, _, _, _, _, _, _, _, _, _, _, rfl, _⟩ := h; rfl)
      | (obtain ⟨_, _, _, _, _, _, _, _, _, _, _, _, _, _, _, _, _, rfl, _⟩ := h; rfl)
      | (obtain ⟨_, _, _, _, _, _, _, _, _, _, _, _, _, _, _, _, _, _, rfl, _⟩ := h; rfl)
      | (obtain ⟨_, _, _, _, _, _, _, _, _, _, _, _, _, _, _, _, _, _, _, rfl, _⟩ := h; rfl)
  · obtain ⟨a, ns, i, rfl, hsq, hi, k⟩ := h
    refine ⟨_, (pss_cons (ps_set (i := 2) sc_law_pot.nd rfl (Or.inl rfl) (pe_ifExp (pt_cmpR op_lt (pv 1) (pe_callB (k_len (K := K) rfl) (by rfl) T.n_len (by decide +kernel) (pa_cons (pv 0) pa_nil)) (nomark _)) (pe_callB c_abs (by rfl) T.n_abs (by decide +kernel) (pa_cons (pe_ix (k_ix (K := K) rfl) (pv 0) (pv 1) (fun _ _ => rfl)) pa_nil)) pe_int))
      (pss_one (ps_ret (pe_lst (pa_cons (pe_callB (c_max2 rfl) (by rfl) T.n_max (by decide +kernel) (pa_cons pe_int (pa_cons (pe_op op_sub (pv 2) (pe_op o_pow pe_int pe_int)) pa_nil))) (pa_cons (pe_op o_mod (pe_op (k_add (K := K) rfl) (pe_op (k_add (K := K) rfl) (pe_op o_mul (pe_op o_mod (pv 2) pe_int) pe_int) (pe_op o_mul pe_int (pv 1))) pe_int) pe_int) pa_nil)))))), ?_⟩
    dsimp only [cxOf, st_1, st_2, st_3, st_4, st_5, st_6, List.length_cons, List.length_nil, List.replicate_succ, List.replicate_zero, Nat.reduceAdd, Nat.reduceSub]
    walk_at "gs"
    refine i_dec (fun h0 => ?_) (fun h0 => ?_)
    · rw [List.length_map] at h0
      have hx : (ns.map V.int)[i]? = some (V.int (ns[i]'(by omega))) := by simp
      have hat := atI_nat hx
      walk_at "gs"
      refine i_new fun p hp => ?_
      refine k p _ hp (Kp.new hp) ⟨_, _, upd_same, ?_, ?_, ?_⟩ <;> omega
    · walk_at "gs"
      refine i_new fun p hp => ?_
      refine k p _ hp (Kp.new hp) ⟨_, _, upd_same, ?_, ?_, ?_⟩ <;> omega
def sp_take : Sp := fun vs H Q _ => ∃ (p : Addr) (n : Int), vs = [.ref p, .int n] ∧ PotAt H p ∧ 0 < n ∧
  n ≤ 10000000000000000000000000000000000000000000000000000000000000000000000 ∧
  ∀ r H', 0 ≤ r → r < n → PotAt H' p → Kp [p] H H' → Q (.int r) H'
theorem sc_law_take : FnScope ["_law_pot_here", "_law_many", "_law_digit"] ["_law_pot_here", "_law_many"] (defScope s_law_take) :=
  ⟨rfl, rfl, rfl, by decide +kernel, rfl, by decide +kernel, by decide +kernel⟩
theorem ok_law_take {P : Program} {w : World} {K : PySem.W.Frag} {mg : Str → Option Value} {base : Heap} (T : Txt w K mg) :
    FnG P w K mg base 1 T.a_law_take T.d_law_take ["_law_pot_here", "_law_many"] sp_take := by
  refine okD T.F_law_take sc_law_take (fun vs H Q E h => ?_) (fun cdv A outer s H vs Q E hr h => ?_)
  · first
      | (obtain ⟨_, rfl, _⟩ := h; rfl)
      | (obtain ⟨_, _, rfl, _⟩ := h; rfl)
      | (obtain ⟨_, _, _, rfl, _⟩ := h; rfl)
      | (obtain ⟨_, _, _, _, rfl, _⟩ := h; rfl)
      | (obtain ⟨_, _, _, _, _, rfl, _⟩ := h; rfl)
      | (obtain ⟨_, _, _, _, _, _, rfl, _⟩ := h; rfl)
      | (obtain ⟨_, _, _, _, _, _, _, rfl, _⟩ := h; rfl)
      | (obtain ⟨_, _, _, _, _, _, _, _, rfl, _⟩ := h; rfl)
      | (obtain ⟨_, _, _, _, _, _, _, _, _, rfl, _⟩ := h; rfl)
      | (obtain ⟨_, _, _, _, _, _, _, _, _, _, rfl, _⟩ := h; rfl)
      | (obtain ⟨_, _, _, _, _, _, _, _, _, _, _, rfl, _⟩ := h; rfl)
      | (obtain ⟨_, _, _, _, _, _, _, _, _, _, _, _, rfl, _⟩ := h; rfl)
      | (obtain ⟨_, _, _, _, _, _, _, _, _, _, _, _, _, rfl, _⟩ := h; rfl)
      | (obtain ⟨_, _, _, _, _, _, _, _, _, _, _, _, _, _, rfl, _⟩ := h; rfl)
      | (obtain ⟨_, _, _, _, _, _, _, _, _, _, _, _, _, _, _, rfl, _⟩ := h; rfl)
      | (obtain ⟨_, _, _, _, _, _, _, _, _, _, _, _, _, _, _, _, rfl, _⟩ := h; rfl)
      | (obtain ⟨_, _, _, _, _, _, _, _, _, _, _, _, _, _, _, _, _, rfl, _⟩ := h; rfl)
      | (obtain ⟨_, _, _, _, _, _, _, _, _, _, _, _, _, _, _, _, _, _, rfl, _⟩ := h; rfl)
      | (obtain ⟨_, _, _, _, _, _, _, _, _, _, _, _, _, _, _, _, _, _, _, rfl, _⟩ := h; rfl)
  · obtain ⟨p, n, rfl, ⟨x, y, hp, hx, hy, hy2⟩, h0, h1, k⟩ := h
    refine ⟨_, (pss_cons (ps_if (pt_cmpR op_gt (pe_ix (k_ix (K := K) rfl) (pv 0) pe_int (fun _ _ => rfl)) pe_int (nomark _)) (pss_cons (ps_asg (pe_callB c_dm (by rfl) T.n_divmod (by decide +kernel) (pa_cons (pe_ix (k_ix (K := K) rfl) (pv 0) pe_int (fun _ _ => rfl)) (pa_cons (pv 1) pa_nil))) (k_gtup (K := K) 2 rfl rfl (pgs_cons (pg_sub (pv 0) pe_int set_list) (pgs_cons (pg_name (i := 2) sc_law_take.nd rfl (Or.inl rfl)) pgs_nil))))
      (pss_one (ps_ret (pv 2)))) pss_nil)
      (pss_cons (ps_asg (pe_op o_mod (pe_op (k_add (K := K) rfl) (pe_op o_mul (pe_ix (k_ix (K := K) rfl) (pv 0) pe_int (fun _ _ => rfl)) pe_int) pe_int) pe_int) (pg_sub (pv 0) pe_int set_list))
      (pss_one (ps_ret (pe_op o_mod (pe_op o_div (pe_op o_mod (pe_op o_mul (pe_ix (k_ix (K := K) rfl) (pv 0) pe_int (fun _ _ => rfl)) (pe_ix (k_ix (K := K) rfl) (pv 0) pe_int (fun _ _ => rfl))) pe_int) pe_int) (pv 1)))))), ?_⟩
    dsimp only [cxOf, st_1, st_2, st_3, st_4, st_5, st_6, List.length_cons, List.length_nil, List.replicate_succ, List.replicate_zero, Nat.reduceAdd, Nat.reduceSub]
    walk_at "gs"
    refine i_dec (fun hx0 => ?_) (fun hx0 => ?_)
    · walk_at "gs"
      refine i_new fun q hq => ?_
      walk_at "gs"
      refine k _ _ (Int.emod_nonneg _ (by omega)) (Int.emod_lt_of_pos _ h0) ⟨_, _, upd_same, ?_, hy, hy2⟩ ?_
      · exact Int.ediv_nonneg hx (by omega)
      · walk_at "g_kp"
    · walk_at "gs"
      refine k _ _ (Int.emod_nonneg _ (by omega)) (Int.emod_lt_of_pos _ h0) ⟨_, _, upd_same, hx, ?_, ?_⟩ ?_
      · omega
      · omega
      · walk_at "g_kp"
theorem use_take {H : Hp} {Q : VK} {E : XK} {p : Addr} {n : Int} (hp : PotAt H p) (h0 : 0 < n)
    (h1 : n ≤ 10000000000000000000000000000000000000000000000000000000000000000000000)
    (k : ∀ r H', 0 ≤ r → r < n → PotAt H' p → Kp [p] H H' → Q (.int r) H') :
    sp_take [.ref p, .int n] H Q E := ⟨p, n, rfl, hp, h0, h1, k⟩

/-! ### sizes, cells, numbers, rows drawn -/
def sp_width : Sp := fun vs H Q _ => ∃ p : Addr, vs = [.ref p] ∧ PotAt H p ∧ ∀ n H', (2 ≤ n ∧ n ≤ 1000000000000000000) → PotAt H' p → Kp [p] H H' → Q (.int n) H'
theorem sc_law_width : FnScope ["_law_pot_here"] ["_law_pot_here"] (defScope s_law_width) :=
  ⟨rfl, rfl, rfl, by decide +kernel, rfl, by decide +kernel, by decide +kernel⟩
theorem ok_law_width {P : Program} {w : World} {K : PySem.W.Frag} {mg : Str → Option Value} {base : Heap} (T : Txt w K mg) :
    FnG P w K mg base 2 T.a_law_width T.d_law_width ["_law_pot_here"] sp_width := by
  refine okD T.F_law_width sc_law_width (fun vs H Q E h => ?_) (fun cdv A outer s H vs Q E hr h => ?_)
  · first
      | (obtain ⟨_, rfl, _⟩ := h; rfl)
      | (obtain ⟨_, _, rfl, _⟩ := h; rfl)
      | (obtain ⟨_, _, _, rfl, _⟩ := h; rfl)
      | (obtain ⟨_, _, _, _, rfl, _⟩ := h; rfl)
      | (obtain ⟨_, _, _, _, _, rfl, _⟩ := h; rfl)
      | (obtain ⟨_, _, _, _, _, _, rfl, _⟩ := h; rfl)
      | (obtain ⟨_, _, _, _, _, _, _, rfl, _⟩ := h; rfl)
      | (obtain ⟨_, _, _, _, _, _, _, _, rfl, _⟩ := h; rfl)
      | (obtain ⟨_, _, _, _, _, _, _, _, _, rfl, _⟩ := h; rfl)
      | (obtain ⟨_, _, _, _, _, _, _, _, _, _, rfl, _⟩ := h; rfl)
      | (obtain ⟨_, _, _, _, _, _, _, _, _, _, _, rfl, _⟩ := h; rfl)
      | (obtain ⟨_, _, _, _, _, _, _, _, _, _, _, _, rfl, _⟩ := h; rfl)
      | (obtain ⟨_, _, _, _, _, _, _, _, _, _, _, _, _, rfl, _⟩ := h; rfl)
      | (obtain ⟨_, _, _, _, _, _, _, _, _, _, _, _, _, _, rfl, _⟩ := h; rfl)
      | (obtain ⟨_, _, _, _, _, _, _, _, _, _, _, _, _, _, _, rfl, _⟩ := h; rfl)
      | (obtain ⟨_, _, _, _, _, _, _, _, _, _, _, _, _, _, _, _, rfl, _⟩ := h; rfl)
      | (obtain ⟨_, _, _, _, _, _, _, _, _, _, _, _, _, _, _, _, _, rfl, _⟩ := h; rfl)
      | (obtain ⟨_, _, _, _, _, _, _, _, _, _, _, _, _, _, _, _, _, _, rfl, _⟩ := h; rfl)
      | (obtain ⟨_, _, _, _, _, _, _, _, _, _, _, _, _, _, _, _, _, _, _, rfl, _⟩ := h; rfl)
  · obtain ⟨p, rfl, hp, k⟩ := h
    refine ⟨_, (pss_one (ps_ret (pe_ix (k_ix (K := K) rfl) (pe_lst (pa_cons (pe_op (k_add (K := K) rfl) pe_int (d1 (ok_law_take T) (hr.mono (by decide)) (by rfl) T.m_law_take T.F_law_take.kp T.b_law_take passL (pa_cons (pv 0) (pa_cons pe_int pa_nil)))) (pa_cons (pe_op op_sub (pe_op o_pow pe_int pe_int) (d1 (ok_law_take T) (hr.mono (by decide)) (by rfl) T.m_law_take T.F_law_take.kp T.b_law_take passL (pa_cons (pv 0) (pa_cons pe_int pa_nil)))) (pa_cons pe_int pa_nil)))) (d1 (ok_law_take T) (hr.mono (by decide)) (by rfl) T.m_law_take T.F_law_take.kp T.b_law_take passL (pa_cons (pv 0) (pa_cons pe_int pa_nil))) (fun _ _ => rfl)))), ?_⟩
    dsimp only [cxOf, st_1, st_2, st_3, st_4, st_5, st_6, List.length_cons, List.length_nil, List.replicate_succ, List.replicate_zero, Nat.reduceAdd, Nat.reduceSub]
    walk_at "gs"
    refine use_take hp (by decide) (by decide) (fun a H1 a0 a1 hp1 k1 => ?_)
    walk_at "gs"
    refine use_take hp1 (by decide) (by decide) (fun b H2 b0 b1 hp2 k2 => ?_)
    walk_at "gs"
    refine i_new fun M fM => ?_
    have kM : Kp [] H2 (upd H2 M (.lst [V.int (3 + a), V.int (1000000000000000000 - b), V.int 2])) := Kp.new fM
    have nMp : M ≠ p := Ne.symm (hp2.ne fM)
    walk_at "gs"
    refine use_take (hp2.kp kM not_nil) (by decide) (by decide) (fun m H4 m0 m1 hp4 k4 => ?_)
    have hM4 : H4 M = some (.lst [V.int (3 + a), V.int (1000000000000000000 - b), V.int 2]) := k4.at_ _ _ upd_same (not_one nMp)
    have k04 : Kp [p] H H4 := Kp.trans k1 (Kp.trans k2 (Kp.trans kM.wide k4))
    obtain ⟨y, hat, y0⟩ : ∃ y : Int, atI [V.int (3 + a), V.int (1000000000000000000 - b), V.int 2] m = some (.int y) ∧ 2 ≤ y ∧ y ≤ 1000000000000000000 := by
      obtain ⟨m', rfl⟩ := Int.eq_ofNat_of_zero_le m0
      have e : m' = 0 ∨ m' = 1 ∨ m' = 2 := by omega
      rcases e with rfl | rfl | rfl
      · exact ⟨_, rfl, by omega⟩
      · exact ⟨_, rfl, by omega⟩
      · exact ⟨_, rfl, by omega⟩
    walk_at "gs"
    exact k _ H4 y0 hp4 k04
def sp_cell : Sp := fun vs H Q _ => ∃ (p : Addr) (n : Int), vs = [.ref p, .int n] ∧ PotAt H p ∧ (2 ≤ n ∧ n ≤ 1000000000000000000) ∧ ∀ c H', cellOk c n → PotAt H' p → Kp [p] H H' → Q (.int c) H'
theorem sc_law_cell : FnScope ["_law_pot_here", "_law_wide"] ["_law_pot_here", "_law_wide"] (defScope s_law_cell) :=
  ⟨rfl, rfl, rfl, by decide +kernel, rfl, by decide +kernel, by decide +kernel⟩
theorem ok_law_cell {P : Program} {w : World} {K : PySem.W.Frag} {mg : Str → Option Value} {base : Heap} (T : Txt w K mg) :
    FnG P w K mg base 2 T.a_law_cell T.d_law_cell ["_law_pot_here", "_law_wide"] sp_cell := by
  refine okD T.F_law_cell sc_law_cell (fun vs H Q E h => ?_) (fun cdv A outer s H vs Q E hr h => ?_)
  · first
      | (obtain ⟨_, rfl, _⟩ := h; rfl)
      | (obtain ⟨_, _, rfl, _⟩ := h; rfl)
      | (obtain ⟨_, _, _, rfl, _⟩ := h; rfl)
      | (obtain ⟨_, _, _, _, rfl, _⟩ := h; rfl)
      | (obtain ⟨_, _, _, _, _, rfl, _⟩ := h; rfl)
      | (obtain ⟨_, _, _, _, _, _, rfl, _⟩ := h; rfl)
      | (obtain ⟨_, _, _, _, _, _, _, rfl, _⟩ := h; rfl)
      | (obtain ⟨_, _, _, _, _, _, _, _, rfl, _⟩ := h; rfl)
      | (obtain ⟨_, _, _, _, _, _, _, _, _, rfl, _⟩ := h; rfl)
      | (obtain ⟨_, _, _, _, _, _, _, _, _, _, rfl, _⟩ := h; rfl)
      | (obtain ⟨_, _, _, _, _, _, _, _, _, _, _, rfl, _⟩ := h; rfl)
      | (obtain ⟨_, _, _, _, _, _, _, _, _, _, _, _, rfl, _⟩ := h; rfl)
      | (obtain ⟨_, _, _, _, _, _, _, _, _, _, _, _, _, rfl, _⟩ := h; rfl)
      | (obtain ⟨_, _, _, _, _, _, _, _, _, _, _, _, _, _, rfl, _⟩ := h; rfl)
      | (obtain ⟨_, _, _, _, _, _, _, _, _, _, _, _, _, _, _, rfl, _⟩ := h; rfl)
      | (obtain ⟨_, _, _, _, _, _, _, _, _, _, _, _, _, _, _, _, rfl, _⟩ := h; rfl)
      | (obtain ⟨_, _, _, _, _, _, _, _, _, _, _, _, _, _, _, _, _, rfl, _⟩ := h; rfl)
      | (obtain ⟨_, _, _, _, _, _, _, _, _, _, _, _, _, _, _, _, _, _, rfl, _⟩ := h; rfl)
      | (obtain ⟨_, _, _, _, _, _, _, _, _, _, _, _, _, _, _, _, _, _, _, rfl, _⟩ := h; rfl)
  · obtain ⟨p, n, rfl, hp, hn, k⟩ := h
    refine ⟨_, (pss_one (ps_ret (pe_ix (k_ix (K := K) rfl) (pe_lst (pa_cons (d1 (ok_law_take T) (hr.mono (by decide)) (by rfl) T.m_law_take T.F_law_take.kp T.b_law_take passL (pa_cons (pv 0) (pa_cons (pe_callB (c_min2 rfl) (by rfl) T.n_min (by decide +kernel) (pa_cons (pv 1) (pa_cons pe_int pa_nil))) pa_nil))) (pa_cons (d1 (ok_law_take T) (hr.mono (by decide)) (by rfl) T.m_law_take T.F_law_take.kp T.b_law_take passL (pa_cons (pv 0) (pa_cons (pe_callB (c_min2 rfl) (by rfl) T.n_min (by decide +kernel) (pa_cons (pv 1) (pa_cons pe_int pa_nil))) pa_nil))) (pa_cons (pe_op op_sub (pv 1) pe_int) pa_nil)))) (d1 (ok_law_take T) (hr.mono (by decide)) (by rfl) T.m_law_take T.F_law_take.kp T.b_law_take passL (pa_cons (pv 0) (pa_cons pe_int pa_nil))) (fun _ _ => rfl)))), ?_⟩
    dsimp only [cxOf, st_1, st_2, st_3, st_4, st_5, st_6, List.length_cons, List.length_nil, List.replicate_succ, List.replicate_zero, Nat.reduceAdd, Nat.reduceSub]
    walk_at "gs"
    refine use_take hp (by omega) (by omega) (fun a H1 a0 a1 hp1 k1 => ?_)
    walk_at "gs"
    refine use_take hp1 (by omega) (by omega) (fun b H2 b0 b1 hp2 k2 => ?_)
    walk_at "gs"
    refine i_new fun M fM => ?_
    have kM : Kp [] H2 (upd H2 M (.lst [V.int a, V.int b, V.int (n - 1)])) := Kp.new fM
    have nMp : M ≠ p := Ne.symm (hp2.ne fM)
    walk_at "gs"
    refine use_take (hp2.kp kM not_nil) (by decide) (by decide) (fun m H4 m0 m1 hp4 k4 => ?_)
    have hM4 : H4 M = some (.lst [V.int a, V.int b, V.int (n - 1)]) := k4.at_ _ _ upd_same (not_one nMp)
    have k04 : Kp [p] H H4 := Kp.trans k1 (Kp.trans k2 (Kp.trans kM.wide k4))
    obtain ⟨y, hat, y0⟩ : ∃ y : Int, atI [V.int a, V.int b, V.int (n - 1)] m = some (.int y) ∧ cellOk y n := by
      unfold cellOk
      obtain ⟨m', rfl⟩ := Int.eq_ofNat_of_zero_le m0
      have e : m' = 0 ∨ m' = 1 ∨ m' = 2 := by omega
      rcases e with rfl | rfl | rfl
      · exact ⟨_, rfl, by omega⟩
      · exact ⟨_, rfl, by omega⟩
      · exact ⟨_, rfl, by omega⟩
    walk_at "gs"
    exact k _ H4 y0 hp4 k04
theorem i_pw20 {H : Hp} {Q : VK} (h : Q (.int 100000000000000000000) H) : rPow (.int 10) (.int 20) H Q := pow_go rfl (by decide) h
theorem i_pw19 {H : Hp} {Q : VK} (h : Q (.int 10000000000000000000) H) : rPow (.int 10) (.int 19) H Q := pow_go rfl (by decide) h
def sp_much : Sp := fun vs H Q _ => ∃ (p : Addr) (n : Int), vs = [.ref p, .int n] ∧ PotAt H p ∧ (2 ≤ n ∧ n ≤ 1000000000000000000) ∧ ∀ c H', (-100000000000000000000 ≤ c ∧ c ≤ 100000000000000000000) → PotAt H' p → Kp [p] H H' → Q (.int c) H'
theorem sc_law_much : FnScope ["_law_pot_here", "_law_wide", "_law_far", "_law_beside"] ["_law_pot_here", "_law_wide"] (defScope s_law_much) :=
  ⟨rfl, rfl, rfl, by decide +kernel, rfl, by decide +kernel, by decide +kernel⟩
theorem ok_law_much {P : Program} {w : World} {K : PySem.W.Frag} {mg : Str → Option Value} {base : Heap} (T : Txt w K mg) :
    FnG P w K mg base 2 T.a_law_much T.d_law_much ["_law_pot_here", "_law_wide"] sp_much := by
  refine okD T.F_law_much sc_law_much (fun vs H Q E h => ?_) (fun cdv A outer s H vs Q E hr h => ?_)
  · first
      | (obtain ⟨_, rfl, _⟩ := h; rfl)
      | (obtain ⟨_, _, rfl, _⟩ := h; rfl)
      | (obtain ⟨_, _, _, rfl, _⟩ := h; rfl)
      | (obtain ⟨_, _, _, _, rfl, _⟩ := h; rfl)
      | (obtain ⟨_, _, _, _, _, rfl, _⟩ := h; rfl)
      | (obtain ⟨_, _, _, _, _, _, rfl, _⟩ := h; rfl)
      | (obtain ⟨_, _, _, _, _, _, _, rfl, _⟩ := h; rfl)
      | (obtain ⟨_, _, _, _, _, _, _, _, rfl, _⟩ := h; rfl)
      | (obtain ⟨_, _, _, _, _, _, _, _, _, rfl, _⟩ := h; rfl)
      | (obtain ⟨_, _, _, _, _, _, _, _, _, _, rfl, _⟩ := h; rfl)
      | (obtain ⟨_, _, _, _, _, _, _, _, _, _, _, rfl, _⟩ := h; rfl)
      | (obtain ⟨_, _, _, _, _, _, _, _, _, _, _, _, rfl, _⟩ := h; rfl)
      | (obtain ⟨_, _, _, _, _, _, _, _, _, _, _, _, _, rfl, _⟩ := h; rfl)
      | (obtain ⟨_, _, _, _, _, _, _, _, _, _, _, _, _, _, rfl, _⟩ := h; rfl)
      | (obtain ⟨_, _, _, _, _, _, _, _, _, _, _, _, _, _, _, rfl, _⟩ := h; rfl)
      | (obtain ⟨_, _, _, _, _, _, _, _, _, _, _, _, _, _, _, _, rfl, _⟩ := h; rfl)
      | (obtain ⟨_, _, _, _, _, _, _, _, _, _, _, _, _, _, _, _, _, rfl, _⟩ := h; rfl)
      | (obtain ⟨_, _, _, _, _, _, _, _, _, _, _, _, _, _, _, _, _, _, rfl, _⟩ := h; rfl)
      | (obtain ⟨_, _, _, _, _, _, _, _, _, _, _, _, _, _, _, _, _, _, _, rfl, _⟩ := h; rfl)
  · obtain ⟨p, n, rfl, hp, hn, k⟩ := h
    refine ⟨_, (pss_cons (ps_par (i := 2) (j := 3) (by rfl) sc_law_much.nd rfl rfl (by decide) rfl rfl (pa_cons (pe_op op_sub (d1 (ok_law_take T) (hr.mono (by decide)) (by rfl) T.m_law_take T.F_law_take.kp T.b_law_take passL (pa_cons (pv 0) (pa_cons (pe_op o_pow pe_int pe_int) pa_nil))) (pe_op o_pow pe_int pe_int)) (pa_cons (pe_ix (k_ix (K := K) rfl) (pe_lst (pa_cons (pe_un un_neg pe_int) (pa_cons (pv 1) (pa_cons (pe_op op_sub (pv 1) pe_int) pa_nil)))) (d1 (ok_law_take T) (hr.mono (by decide)) (by rfl) T.m_law_take T.F_law_take.kp T.b_law_take passL (pa_cons (pv 0) (pa_cons pe_int pa_nil))) (fun _ _ => rfl)) pa_nil)) (by rfl))
      (pss_one (ps_ret (pe_ix (k_ix (K := K) rfl) (pe_lst (pa_cons (d1 (ok_law_take T) (hr.mono (by decide)) (by rfl) T.m_law_take T.F_law_take.kp T.b_law_take passL (pa_cons (pv 0) (pa_cons pe_int pa_nil))) (pa_cons (d1 (ok_law_take T) (hr.mono (by decide)) (by rfl) T.m_law_take T.F_law_take.kp T.b_law_take passL (pa_cons (pv 0) (pa_cons (pe_callB (c_min2 rfl) (by rfl) T.n_min (by decide +kernel) (pa_cons (pv 1) (pa_cons pe_int pa_nil))) pa_nil))) (pa_cons (pv 3) (pa_cons (pv 2) pa_nil))))) (d1 (ok_law_take T) (hr.mono (by decide)) (by rfl) T.m_law_take T.F_law_take.kp T.b_law_take passL (pa_cons (pv 0) (pa_cons pe_int pa_nil))) (fun _ _ => rfl))))), ?_⟩
    dsimp only [cxOf, st_1, st_2, st_3, st_4, st_5, st_6, List.length_cons, List.length_nil, List.replicate_succ, List.replicate_zero, Nat.reduceAdd, Nat.reduceSub]
    walk_at "gs"
    refine i_pw20 ?_
    walk_at "gs"
    refine use_take hp (by omega) (by omega) (fun far H1 a0 a1 hp1 k1 => ?_)
    walk_at "gs"
    refine i_pw19 ?_
    walk_at "gs"
    refine i_new fun M fM => ?_
    have kM : Kp [] H1 (upd H1 M (.lst [V.int (-1), V.int n, V.int (n - 1)])) := Kp.new fM
    have nMp : M ≠ p := Ne.symm (hp1.ne fM)
    walk_at "gs"
    refine use_take (hp1.kp kM not_nil) (by decide) (by decide) (fun m H4 m0 m1 hp4 k4 => ?_)
    have hM4 : H4 M = some (.lst [V.int (-1), V.int n, V.int (n - 1)]) := k4.at_ _ _ upd_same (not_one nMp)
    have k04 : Kp [p] H H4 := Kp.trans k1 (Kp.trans kM.wide k4)
    obtain ⟨y, hat, y0⟩ : ∃ y : Int, atI [V.int (-1), V.int n, V.int (n - 1)] m = some (.int y) ∧ (-100000000000000000000 ≤ y ∧ y ≤ 100000000000000000000) := by
      obtain ⟨m', rfl⟩ := Int.eq_ofNat_of_zero_le m0
      have e : m' = 0 ∨ m' = 1 ∨ m' = 2 := by omega
      rcases e with rfl | rfl | rfl
      · exact ⟨_, rfl, by omega⟩
      · exact ⟨_, rfl, by omega⟩
      · exact ⟨_, rfl, by omega⟩
    walk_at "gs"
    refine use_take hp4 (by decide) (by decide) (fun b H5 b0 b1 hp5 k5 => ?_)
    walk_at "gs"
    refine use_take hp5 (by omega) (by omega) (fun c H6 c0 c1 hp6 k6 => ?_)
    walk_at "gs"
    refine i_new fun M2 fM2 => ?_
    have kM2 : Kp [] H6 (upd H6 M2 (.lst [V.int b, V.int c, V.int y, V.int (far - 10000000000000000000)])) := Kp.new fM2
    have nM2p : M2 ≠ p := Ne.symm (hp6.ne fM2)
    walk_at "gs"
    refine use_take (hp6.kp kM2 not_nil) (by decide) (by decide) (fun m2 H7 m20 m21 hp7 k7 => ?_)
    have hM7 : H7 M2 = some (.lst [V.int b, V.int c, V.int y, V.int (far - 10000000000000000000)]) := k7.at_ _ _ upd_same (not_one nM2p)
    have k07 : Kp [p] H H7 := Kp.trans k04 (Kp.trans k5 (Kp.trans k6 (Kp.trans kM2.wide k7)))
    obtain ⟨y2, hat2, y20⟩ : ∃ y2 : Int, atI [V.int b, V.int c, V.int y, V.int (far - 10000000000000000000)] m2 = some (.int y2) ∧ (-100000000000000000000 ≤ y2 ∧ y2 ≤ 100000000000000000000) := by
      obtain ⟨m', rfl⟩ := Int.eq_ofNat_of_zero_le m20
      have e : m' = 0 ∨ m' = 1 ∨ m' = 2 ∨ m' = 3 := by omega
      rcases e with rfl | rfl | rfl | rfl
      · exact ⟨_, rfl, by omega⟩
      · exact ⟨_, rfl, by omega⟩
      · exact ⟨_, rfl, by omega⟩
      · exact ⟨_, rfl, by omega⟩
    walk_at "gs"
    exact k _ H7 y20 hp7 k07
/-- numbers of a drawn row -/
def LowR (r : Str × List Int) : Prop := ∀ v ∈ r.2, -1000000000000000000000 ≤ v ∧ v ≤ 1000000000000000000000
/-- where a row goes on to one that it names, that is behind -/
def Onw (i : Int) (r : Str × List Int) : Prop := (r.1 = "less" ∨ r.1 = "same" → i < r.2.getD 2 0) ∧ (r.1 = "fork" → i < r.2.getD 0 0)
theorem onw_no {i : Int} {w : Str} {ns : List Int} (h : w ≠ "less" ∧ w ≠ "same" ∧ w ≠ "fork") : Onw i (w, ns) := ⟨fun z => z.elim (fun e => absurd e h.1) (fun e => absurd e h.2.1), fun e => absurd e h.2.2⟩
theorem low1 {a : Int} (h : -1000000000000000000000 ≤ a ∧ a ≤ 1000000000000000000000) {w : Str} : LowR (w, [a]) := fun v m => by
  rw [List.mem_singleton.mp m]
  exact h
theorem low2 {a b : Int} (h : -1000000000000000000000 ≤ a ∧ a ≤ 1000000000000000000000) (g : -1000000000000000000000 ≤ b ∧ b ≤ 1000000000000000000000) {w : Str} : LowR (w, [a, b]) := fun v m => by
  rcases List.mem_cons.mp m with e | m
  · rw [e]
    exact h
  · exact low1 (w := w) g v m
theorem low3 {a b c : Int} (h : -1000000000000000000000 ≤ a ∧ a ≤ 1000000000000000000000) (g : -1000000000000000000000 ≤ b ∧ b ≤ 1000000000000000000000) (f : -1000000000000000000000 ≤ c ∧ c ≤ 1000000000000000000000) {w : Str} : LowR (w, [a, b, c]) := fun v m => by
  rcases List.mem_cons.mp m with e | m
  · rw [e]
    exact h
  · exact low2 (w := w) g f v m
theorem cellOk.low {c n : Int} (h : cellOk c n) (z : n ≤ 1000000000000000000) : -1000000000000000000000 ≤ c ∧ c ≤ 1000000000000000000000 := ⟨by have := h.1; omega, by have := h.2; omega⟩
/-- a new row told -/
def RowK (p : Addr) (n many here : Int) (H : Hp) (Q : VK) : Prop := ∀ t r H', H' t = some (.tup (.str r.1 :: r.2.map V.int)) → Row n many (rowD r) → LowR r → Onw here r → PotAt H' p → Kp [p] H H' → Q (.ref t) H'
theorem RowK.new {p : Addr} {n many here : Int} {H H5 : Hp} {Q : VK} (k : RowK p n many here H Q) (w : Str) (ns : List Int) (hp5 : PotAt H5 p) (k5 : Kp [p] H H5) (row : Row n many (.tuple (.str w :: ns.map .int))) (lo : LowR (w, ns)) (on : Onw here (w, ns)) : New H5 fun t => Q (.ref t) (upd H5 t (.tup (.str w :: ns.map V.int))) := by
  refine i_new fun t ft => ?_
  have kt : Kp [] H5 (upd H5 t (.tup (.str w :: ns.map V.int))) := Kp.new ft
  exact k t (w, ns) _ upd_same row lo on (hp5.kp kt not_nil) (Kp.trans k5 kt.wide)
def sp_written : Sp := fun vs H Q _ => ∃ (p : Addr) (n way : Int), vs = [.ref p, .int n, .int way] ∧ PotAt H p ∧ (2 ≤ n ∧ n ≤ 1000000000000000000) ∧ (0 ≤ way ∧ way < 8) ∧ ∃ many here, RowK p n many here H Q
theorem sc_law_written : FnScope ["_law_pot_here", "_law_wide", "_law_way", "_law_one", "_law_other"] ["_law_pot_here", "_law_wide", "_law_way"] (defScope s_law_written) :=
  ⟨rfl, rfl, rfl, by decide +kernel, rfl, by decide +kernel, by decide +kernel⟩
theorem ok_law_written {P : Program} {w : World} {K : PySem.W.Frag} {mg : Str → Option Value} {base : Heap} (T : Txt w K mg) :
    FnG P w K mg base 3 T.a_law_written T.d_law_written ["_law_pot_here", "_law_wide", "_law_way"] sp_written := by
  refine okD T.F_law_written sc_law_written (fun vs H Q E h => ?_) (fun cdv A outer s H vs Q E hr h => ?_)
  · first
      | (obtain ⟨_, rfl, _⟩ := h; rfl)
      | (obtain ⟨_, _, rfl, _⟩ := h; rfl)
      | (obtain ⟨_, _, _, rfl, _⟩ := h; rfl)
      | (obtain ⟨_, _, _, _, rfl, _⟩ := h; rfl)
      | (obtain ⟨_, _, _, _, _, rfl, _⟩ := h; rfl)
      | (obtain ⟨_, _, _, _, _, _, rfl, _⟩ := h; rfl)
      | (obtain ⟨_, _, _, _, _, _, _, rfl, _⟩ := h; rfl)
      | (obtain ⟨_, _, _, _, _, _, _, _, rfl, _⟩ := h; rfl)
      | (obtain ⟨_, _, _, _, _, _, _, _, _, rfl, _⟩ := h; rfl)
      | (obtain ⟨_, _, _, _, _, _, _, _, _, _, rfl, _⟩ := h; rfl)
      | (obtain ⟨_, _, _, _, _, _, _, _, _, _, _, rfl, _⟩ := h; rfl)
      | (obtain ⟨_, _, _, _, _, _, _, _, _, _, _, _, rfl, _⟩ := h; rfl)
      | (obtain ⟨_, _, _, _, _, _, _, _, _, _, _, _, _, rfl, _⟩ := h; rfl)
      | (obtain ⟨_, _, _, _, _, _, _, _, _, _, _, _, _, _, rfl, _⟩ := h; rfl)
      | (obtain ⟨_, _, _, _, _, _, _, _, _, _, _, _, _, _, _, rfl, _⟩ := h; rfl)
      | (obtain ⟨_, _, _, _, _, _, _, _, _, _, _, _, _, _, _, _, rfl, _⟩ := h; rfl)
      | (obtain ⟨_, _, _, _, _, _, _, _, _, _, _, _, _, _, _, _, _, rfl, _⟩ := h; rfl)
      | (obtain ⟨_, _, _, _, _, _, _, _, _, _, _, _, _, _, _, _, _, _, rfl, _⟩ := h; rfl)
      | (obtain ⟨_, _, _, _, _, _, _, _, _, _, _, _, _, _, _, _, _, _, _, rfl, _⟩ := h; rfl)
  · obtain ⟨p, n, way, rfl, hp, hn, hw, many, here, k⟩ := h
    refine ⟨_, (pss_cons (ps_par (i := 3) (j := 4) (by rfl) sc_law_written.nd rfl rfl (by decide) rfl rfl (pa_cons (d1 (ok_law_cell T) (hr.mono (by decide)) (by rfl) T.m_law_cell T.F_law_cell.kp T.b_law_cell passL (pa_cons (pv 0) (pa_cons (pv 1) pa_nil))) (pa_cons (d1 (ok_law_cell T) (hr.mono (by decide)) (by rfl) T.m_law_cell T.F_law_cell.kp T.b_law_cell passL (pa_cons (pv 0) (pa_cons (pv 1) pa_nil))) pa_nil)) (by rfl))
      (pss_cons (ps_if (pt_cmpR op_lt (pv 2) pe_int (nomark _)) (pss_one (ps_ret (pe_tup (pa_cons pe_str (pa_cons (pv 3) (pa_cons (d1 (ok_law_much T) (hr.mono (by decide)) (by rfl) T.m_law_much T.F_law_much.kp T.b_law_much passL (pa_cons (pv 0) (pa_cons (pv 1) pa_nil))) pa_nil)))))) pss_nil)
      (pss_cons (ps_if (pt_cmpR (k_eq (K := K) rfl hr.r.units) (pv 2) pe_int (nomark _)) (pss_one (ps_ret (pe_tup (pa_cons pe_str (pa_cons (pe_callB (c_min2 rfl) (by rfl) T.n_min (by decide +kernel) (pa_cons (pv 3) (pa_cons (pv 4) pa_nil))) (pa_cons (pe_op (k_add (K := K) rfl) (pe_callB (c_max2 rfl) (by rfl) T.n_max (by decide +kernel) (pa_cons (pv 3) (pa_cons (pv 4) pa_nil))) (d1 (ok_law_take T) (hr.mono (by decide)) (by rfl) T.m_law_take T.F_law_take.kp T.b_law_take passL (pa_cons (pv 0) (pa_cons pe_int pa_nil)))) (pa_cons (d1 (ok_law_cell T) (hr.mono (by decide)) (by rfl) T.m_law_cell T.F_law_cell.kp T.b_law_cell passL (pa_cons (pv 0) (pa_cons (pv 1) pa_nil))) pa_nil))))))) pss_nil)
      (pss_one (ps_ret (pe_tup (pa_cons (pe_ix (k_ix (K := K) rfl) (pe_lst (pa_cons pe_str (pa_cons pe_str (pa_cons pe_str (pa_cons pe_str (pa_cons pe_str pa_nil)))))) (pe_op op_sub (pv 2) pe_int) (fun _ _ => rfl)) (pa_cons (pv 3) (pa_cons (pv 4) pa_nil))))))))), ?_⟩
    dsimp only [cxOf, st_1, st_2, st_3, st_4, st_5, st_6, List.length_cons, List.length_nil, List.replicate_succ, List.replicate_zero, Nat.reduceAdd, Nat.reduceSub]
    walk_at "gs"
    refine ⟨p, n, rfl, hp, hn, fun c H1 hc hp1 k1 => ?_⟩
    walk_at "gs"
    refine ⟨p, n, rfl, hp1, hn, fun d H2 hd hp2 k2 => ?_⟩
    have k02 := Kp.trans k1 k2
    walk_at "gs"
    refine i_dec (fun w3 => ?_) (fun w3 => ?_)
    · walk_at "gs"
      refine ⟨p, n, rfl, hp2, hn, fun v H3 hv hp3 k3 => ?_⟩
      walk_at "gs"
      exact k.new "put" [c, v] hp3 (Kp.trans k02 k3) (row_cn (by decide +kernel) (by decide +kernel) hc ⟨by omega, by omega⟩ hn.2) (low2 (hc.low hn.2) ⟨by omega, by omega⟩) (onw_no (by decide +kernel))
    walk_at "gs"
    refine i_dec (fun w5 => ?_) (fun w5 => ?_)
    · walk_at "gs"
      refine use_take hp2 (by decide) (by decide) (fun e0 H3 z0 z1 hp3 k3 => ?_)
      walk_at "gs"
      refine ⟨p, n, rfl, hp3, hn, fun f H4 hf hp4 k4 => ?_⟩
      walk_at "gs"
      have hc0 := hc.1
      have hc1 := hc.2
      have hd0 := hd.1
      have hd1 := hd.2
      obtain ⟨lo, elo⟩ : ∃ lo, lo = min c d := ⟨_, rfl⟩
      obtain ⟨hi, ehi⟩ : ∃ hi, hi = max c d := ⟨_, rfl⟩
      rw [← elo, ← ehi]
      exact k.new "fill" [lo, hi + e0, f] hp4 (Kp.trans k02 (Kp.trans k3 k4)) (row_bec ⟨by omega, by omega⟩ (by omega) hf hn.2) (low3 ⟨by omega, by omega⟩ ⟨by omega, by omega⟩ (hf.low hn.2)) (onw_no (by decide +kernel))
    walk_at "gs"
    refine i_new fun M fM => ?_
    have kM : Kp [] H2 (upd H2 M (.lst [V.str (Str.ofString "move"), V.str (Str.ofString "add"), V.str (Str.ofString "fill"), V.str (Str.ofString "from"), V.str (Str.ofString "into")])) := Kp.new fM
    have hM : (upd H2 M (.lst [V.str (Str.ofString "move"), V.str (Str.ofString "add"), V.str (Str.ofString "fill"), V.str (Str.ofString "from"), V.str (Str.ofString "into")])) M = some (.lst [V.str (Str.ofString "move"), V.str (Str.ofString "add"), V.str (Str.ofString "fill"), V.str (Str.ofString "from"), V.str (Str.ofString "into")]) := upd_same
    obtain ⟨H3, e3⟩ : ∃ H3, H3 = upd H2 M (.lst [V.str (Str.ofString "move"), V.str (Str.ofString "add"), V.str (Str.ofString "fill"), V.str (Str.ofString "from"), V.str (Str.ofString "into")]) := ⟨_, rfl⟩
    rw [← e3] at kM hM ⊢
    have hp3 := hp2.kp kM not_nil
    have k03 := Kp.trans k02 kM.wide
    obtain ⟨w, hat, ok, ne⟩ : ∃ w : Str, atI [V.str (Str.ofString "move"), V.str (Str.ofString "add"), V.str (Str.ofString "fill"), V.str (Str.ofString "from"), V.str (Str.ofString "into")] (way - 3) = some (.str w) ∧ ((w, Str.ofString "cc") ∈ kv_SHAPES ∧ w ≠ "fill") ∧ (w ≠ "less" ∧ w ≠ "same" ∧ w ≠ "fork") := by
      have e : way - 3 = (0 : Nat) ∨ way - 3 = (1 : Nat) ∨ way - 3 = (3 : Nat) ∨ way - 3 = (4 : Nat) := by omega
      rcases e with e | e | e | e
      · rw [e]
        exact ⟨_, atI_nat (j := 0) rfl, by decide +kernel, by decide +kernel⟩
      · rw [e]
        exact ⟨_, atI_nat (j := 1) rfl, by decide +kernel, by decide +kernel⟩
      · rw [e]
        exact ⟨_, atI_nat (j := 3) rfl, by decide +kernel, by decide +kernel⟩
      · rw [e]
        exact ⟨_, atI_nat (j := 4) rfl, by decide +kernel, by decide +kernel⟩
    walk_at "gs"
    exact k.new w [c, d] hp3 k03 (row_cc ok.1 ok.2 hc hd hn.2) (low2 (hc.low hn.2) (hd.low hn.2)) (onw_no ne)
theorem inVI2 {w a b : Int} : inV (.int w) [V.int a, V.int b] = (decide (w = a) || decide (w = b)) := by
  unfold inV
  rw [List.any_cons, List.any_cons, List.any_nil, Bool.or_false]
  have e : ∀ x y : Int, eqV (.int x) (.int y) = decide (y = x) := fun x y => by
    unfold eqV
    by_cases c : y = x
    · subst c
      simp
    · rw [decide_eq_false c]
      exact beq_eq_false_iff_ne.mpr fun z => c z.symm
  rw [e, e]
def sp_rowdrawn : Sp := fun vs H Q _ => ∃ (p : Addr) (n here many forks : Int), vs = [.ref p, .int n, .int here, .int many, .int forks] ∧ PotAt H p ∧ (2 ≤ n ∧ n ≤ 1000000000000000000) ∧ (0 ≤ here ∧ here < many ∧ many ≤ 1000) ∧ RowK p n many here H Q
theorem sc_law_row_drawn : FnScope ["_law_pot_here", "_law_wide", "_law_here", "_law_many", "_law_forks", "_law_way", "_law_onward", "_law_one", "_law_other"] ["_law_pot_here", "_law_wide", "_law_here", "_law_many", "_law_forks"] (defScope s_law_row_drawn) :=
  ⟨rfl, rfl, rfl, by decide +kernel, rfl, by decide +kernel, by decide +kernel⟩
theorem ok_law_row_drawn {P : Program} {w : World} {K : PySem.W.Frag} {mg : Str → Option Value} {base : Heap} (T : Txt w K mg) :
    FnG P w K mg base 4 T.a_law_row_drawn T.d_law_row_drawn ["_law_pot_here", "_law_wide", "_law_here", "_law_many", "_law_forks"] sp_rowdrawn := by
  refine okD T.F_law_row_drawn sc_law_row_drawn (fun vs H Q E h => ?_) (fun cdv A outer s H vs Q E hr h => ?_)
  · first
      | (obtain ⟨_, rfl, _⟩ := h; rfl)
      | (obtain ⟨_, _, rfl, _⟩ := h; rfl)
      | (obtain ⟨_, _, _, rfl, _⟩ := h; rfl)
      | (obtain ⟨_, _, _, _, rfl, _⟩ := h; rfl)
      | (obtain ⟨_, _, _, _, _, rfl, _⟩ := h; rfl)
      | (obtain ⟨_, _, _, _, _, _, rfl, _⟩ := h; rfl)
      | (obtain ⟨_, _, _, _, _, _, _, rfl, _⟩ := h; rfl)
      | (obtain ⟨_, _, _, _, _, _, _, _, rfl, _⟩ := h; rfl)
      | (obtain ⟨_, _, _, _, _, _, _, _, _, rfl, _⟩ := h; rfl)
      | (obtain ⟨_, _, _, _, _, _, _, _, _, _, rfl, _⟩ := h; rfl)
      | (obtain ⟨_, _, _, _, _, _, _, _, _, _, _, rfl, _⟩ := h; rfl)
      | (obtain ⟨_, _, _, _, _, _, _, _, _, _, _, _, rfl, _⟩ := h; rfl)
      | (obtain ⟨_, _, _, _, _, _, _, _, _, _, _, _, _, rfl, _⟩ := h; rfl)
      | (obtain ⟨_, _, _, _, _, _, _, _, _, _, _, _, _, _, rfl, _⟩ := h; rfl)
      | (obtain ⟨_, _, _, _, _, _, _, _, _, _, _, _, _, _, _, rfl, _⟩ := h; rfl)
      | (obtain ⟨_, _, _, _, _, _, _, _, _, _, _, _, _, _, _, _, rfl, _⟩ := h; rfl)
      | (obtain ⟨_, _, _, _, _, _, _, _, _, _, _, _, _, _, _, _, _, rfl, _⟩ := h; rfl)
      | (obtain ⟨_, _, _, _, _, _, _, _, _, _, _, _, _, _, _, _, _, _, rfl, _⟩ := h; rfl)
      | (obtain ⟨_, _, _, _, _, _, _, _, _, _, _, _, _, _, _, _, _, _, _, rfl, _⟩ := h; rfl)
  · obtain ⟨p, n, here, many, forks, rfl, hp, hn, hm, k⟩ := h
    refine ⟨_, (pss_cons (ps_set (i := 5) sc_law_row_drawn.nd rfl (Or.inl rfl) (d1 (ok_law_take T) (hr.mono (by decide)) (by rfl) T.m_law_take T.F_law_take.kp T.b_law_take passL (pa_cons (pv 0) (pa_cons pe_int pa_nil))))
      (pss_cons (ps_set (i := 6) sc_law_row_drawn.nd rfl (Or.inl rfl) (pe_op (k_add (K := K) rfl) (pe_op (k_add (K := K) rfl) (pv 2) pe_int) (d1 (ok_law_take T) (hr.mono (by decide)) (by rfl) T.m_law_take T.F_law_take.kp T.b_law_take passL (pa_cons (pv 0) (pa_cons (pe_op op_sub (pv 3) (pv 2)) pa_nil)))))
      (pss_cons (ps_par (i := 7) (j := 8) (by rfl) sc_law_row_drawn.nd rfl rfl (by decide) rfl rfl (pa_cons (d1 (ok_law_cell T) (hr.mono (by decide)) (by rfl) T.m_law_cell T.F_law_cell.kp T.b_law_cell passL (pa_cons (pv 0) (pa_cons (pv 1) pa_nil))) (pa_cons (d1 (ok_law_cell T) (hr.mono (by decide)) (by rfl) T.m_law_cell T.F_law_cell.kp T.b_law_cell passL (pa_cons (pv 0) (pa_cons (pv 1) pa_nil))) pa_nil)) (by rfl))
      (pss_cons (ps_if (pt_cmpR op_lt (pv 5) pe_int (nomark _)) (pss_one (ps_ret (d1 (ok_law_written T) (hr.mono (by decide)) (by rfl) T.m_law_written T.F_law_written.kp T.b_law_written passL (pa_cons (pv 0) (pa_cons (pv 1) (pa_cons (pv 5) pa_nil)))))) pss_nil)
      (pss_cons (ps_if (pt_cmpR (k_in (K := K) rfl) (pv 5) (pe_tup (pa_cons pe_int (pa_cons pe_int pa_nil))) (rfl)) (pss_one (ps_ret (pe_tup (pa_cons (pe_ix (k_ix (K := K) rfl) (pe_lst (pa_cons pe_str (pa_cons pe_str pa_nil))) (pe_op op_sub (pv 5) pe_int) (fun _ _ => rfl)) (pa_cons (pv 7) (pa_cons (pv 8) (pa_cons (pv 6) pa_nil))))))) pss_nil)
      (pss_cons (ps_if (PW.pt (pw_and (pt_cmpR op_gt (pv 5) pe_int (nomark _)) (pw_and (pt_cmpR op_lt (pv 5) pe_int (nomark _)) (pw_and1 (pt_cmpR op_lt (pv 4) pe_int (nomark _)))))) (pss_one (ps_ret (pe_tup (pa_cons pe_str (pa_cons (pv 6) pa_nil))))) pss_nil)
      (pss_cons (ps_if (pt_cmpR op_gt (pv 5) pe_int (nomark _)) (pss_one (ps_ret (pe_ix (k_ix (K := K) rfl) (pe_lst (pa_cons (pe_tup (pa_cons pe_str pa_nil)) (pa_cons (pe_tup (pa_cons pe_str pa_nil)) pa_nil))) (pe_op op_sub (pv 5) pe_int) (fun _ _ => rfl)))) pss_nil)
      (pss_one (ps_ret (pe_tup (pa_cons pe_str (pa_cons (pv 7) pa_nil)))))))))))), ?_⟩
    dsimp only [cxOf, st_1, st_2, st_3, st_4, st_5, st_6, List.length_cons, List.length_nil, List.replicate_succ, List.replicate_zero, Nat.reduceAdd, Nat.reduceSub]
    walk_at "gs"
    refine use_take hp (by decide) (by decide) (fun way H1 w0 w1 hp1 k1 => ?_)
    walk_at "gs"
    refine use_take hp1 (by omega) (by omega) (fun o H2 o0 o1 hp2 k2 => ?_)
    obtain ⟨on, eon, on0, on1⟩ : ∃ on, on = here + 1 + o ∧ here < on ∧ on ≤ many := ⟨_, rfl, by omega, by omega⟩
    walk_at "gs"
    rw [← eon]
    refine ⟨p, n, rfl, hp2, hn, fun c H3 hc hp3 k3 => ?_⟩
    walk_at "gs"
    refine ⟨p, n, rfl, hp3, hn, fun d H4 hd hp4 k4 => ?_⟩
    have k04 : Kp [p] H H4 := Kp.trans k1 (Kp.trans k2 (Kp.trans k3 k4))
    walk_at "gs"
    refine i_dec (fun c8 => ?_) (fun c8 => ?_)
    · walk_at "gs"
      exact ⟨p, n, way, rfl, hp4, hn, ⟨w0, c8⟩, many, here, fun t r H' ht row lo ow hp' k' => k t r H' ht row lo ow hp' (Kp.trans k04 k')⟩
    walk_at "gs"
    refine i_new fun t ft => ?_
    have kt : Kp [] H4 (upd H4 t (.tup [V.int 8, V.int 9])) := Kp.new ft
    have ht : SqT K (upd H4 t (.tup [V.int 8, V.int 9])) t [V.int 8, V.int 9] := SqT.of upd_same
    obtain ⟨H5, e5⟩ : ∃ H5, H5 = upd H4 t (.tup [V.int 8, V.int 9]) := ⟨_, rfl⟩
    rw [← e5] at kt ht ⊢
    have hp5 := hp4.kp kt not_nil
    have k05 := Kp.trans k04 kt.wide
    refine ⟨t, _, rfl, .inr ht, rfl, rfl, ?_⟩
    simp only [Bool.false_eq_true, if_false]
    rw [inVI2]
    walk_at "gs"
    refine i_bool2 (fun cw => ?_) (fun cw => ?_)
    · have cw : way = 8 ∨ way = 9 := by simpa using cw
      walk_at "gs"
      refine i_new fun M fM => ?_
      have kM : Kp [] H5 (upd H5 M (.lst [V.str (Str.ofString "less"), V.str (Str.ofString "same")])) := Kp.new fM
      have hM : (upd H5 M (.lst [V.str (Str.ofString "less"), V.str (Str.ofString "same")])) M = some (.lst [V.str (Str.ofString "less"), V.str (Str.ofString "same")]) := upd_same
      obtain ⟨H6, e6⟩ : ∃ H6, H6 = upd H5 M (.lst [V.str (Str.ofString "less"), V.str (Str.ofString "same")]) := ⟨_, rfl⟩
      rw [← e6] at kM hM ⊢
      obtain ⟨w, hat, ok, ne⟩ : ∃ w : Str, atI [V.str (Str.ofString "less"), V.str (Str.ofString "same")] (way - 8) = some (.str w) ∧ ((w, Str.ofString "ccr") ∈ kv_SHAPES ∧ w ≠ "fill") ∧ w ≠ "fork" := by
        have e : way - 8 = (0 : Nat) ∨ way - 8 = (1 : Nat) := by omega
        rcases e with e | e
        · rw [e]
          exact ⟨_, atI_nat (j := 0) rfl, by decide +kernel, by decide +kernel⟩
        · rw [e]
          exact ⟨_, atI_nat (j := 1) rfl, by decide +kernel, by decide +kernel⟩
      walk_at "gs"
      exact k.new w [c, d, on] (hp5.kp kM not_nil) (Kp.trans k05 kM.wide) (row_ccr ok.1 ok.2 hc hd ⟨by omega, on1⟩ hn.2 hm.2.2) (low3 (hc.low hn.2) (hd.low hn.2) ⟨by omega, by omega⟩) ⟨fun _ => on0, fun e => absurd e ne⟩
    walk_at "gs"
    refine i_dec (fun f1 => ?_) (fun f1 => ?_)
    walk_at "gs"
    refine i_dec (fun f2 => ?_) (fun f2 => ?_)
    walk_at "gs"
    refine i_dec (fun f3 => ?_) (fun f3 => ?_)
    · walk_at "gs"
      exact k.new "fork" [on] hp5 k05 (row_r (by decide +kernel) (by decide +kernel) ⟨by omega, on1⟩ hm.2.2) (low1 ⟨by omega, by omega⟩) ⟨fun e => absurd e (by show ¬ (Str.ofString "fork" = Str.ofString "less" ∨ Str.ofString "fork" = Str.ofString "same"); decide +kernel), fun _ => on0⟩
    all_goals
      walk_at "gs"
      refine i_dec (fun f4 => ?_) (fun f4 => ?_)
      · walk_at "gs"
        refine i_new fun t1 ft1 => ?_
        have kt1 : Kp [] H5 (upd H5 t1 (.tup [V.str (Str.ofString "fail")])) := Kp.new ft1
        have ht1 : (upd H5 t1 (.tup [V.str (Str.ofString "fail")])) t1 = some (.tup [V.str (Str.ofString "fail")]) := upd_same
        obtain ⟨H6, e6⟩ : ∃ H6, H6 = upd H5 t1 (.tup [V.str (Str.ofString "fail")]) := ⟨_, rfl⟩
        rw [← e6] at kt1 ht1 ⊢
        walk_at "gs"
        refine i_new fun t2 ft2 => ?_
        have kt2 : Kp [] H6 (upd H6 t2 (.tup [V.str (Str.ofString "done")])) := Kp.new ft2
        have ht2 : (upd H6 t2 (.tup [V.str (Str.ofString "done")])) t2 = some (.tup [V.str (Str.ofString "done")]) := upd_same
        obtain ⟨H7, e7⟩ : ∃ H7, H7 = upd H6 t2 (.tup [V.str (Str.ofString "done")]) := ⟨_, rfl⟩
        rw [← e7] at kt2 ht2 ⊢
        walk_at "gs"
        refine i_new fun M fM => ?_
        have kM : Kp [] H7 (upd H7 M (.lst [V.ref t1, V.ref t2])) := Kp.new fM
        have hM : (upd H7 M (.lst [V.ref t1, V.ref t2])) M = some (.lst [V.ref t1, V.ref t2]) := upd_same
        obtain ⟨H8, e8⟩ : ∃ H8, H8 = upd H7 M (.lst [V.ref t1, V.ref t2]) := ⟨_, rfl⟩
        rw [← e8] at kM hM ⊢
        have k58 := Kp.trans kt1 (Kp.trans kt2 kM)
        have ht18 := (Kp.trans kt2 kM).at_ _ _ ht1 not_nil
        have ht28 := kM.at_ _ _ ht2 not_nil
        have e : way - 15 = (0 : Nat) ∨ way - 15 = (1 : Nat) := by omega
        rcases e with e | e
        · have hat : atI [V.ref t1, V.ref t2] (way - 15) = some (.ref t1) := by
            rw [e]
            exact atI_nat (j := 0) rfl
          walk_at "gs"
          exact k t1 ("fail", []) H8 ht18 (row_0 (by decide +kernel) (by decide +kernel)) (fun v m => nomatch m) (onw_no (by decide +kernel)) (hp5.kp k58 not_nil) (Kp.trans k05 k58.wide)
        · have hat : atI [V.ref t1, V.ref t2] (way - 15) = some (.ref t2) := by
            rw [e]
            exact atI_nat (j := 1) rfl
          walk_at "gs"
          exact k t2 ("done", []) H8 ht28 (row_0 (by decide +kernel) (by decide +kernel)) (fun v m => nomatch m) (onw_no (by decide +kernel)) (hp5.kp k58 not_nil) (Kp.trans k05 k58.wide)
      · walk_at "gs"
        exact k.new "tell" [c] hp5 k05 (row_c (by decide +kernel) (by decide +kernel) hc hn.2) (low1 (hc.low hn.2)) (onw_no (by decide +kernel))

/-! ### programs made: what laws need of it (lines of k71's pieces) -/
theorem Tg.de {K : PySem.W.Frag} {H : Hp} {ws : List Addr} {v : V} {d : PyData} (t : Tg K H ws v d) : De K H v d := by
  rcases t with t | ⟨rfl, a, rfl, h, _⟩
  · exact Dp.de _ _ (t.dp _ _)
  · exact .emp h
/-- what may be shown, and compared where it is a tuple -/
def Fn (d : PyData) : Prop := shwE d = true ∧ d.depth ≤ 3 ∧ cwE d ≤ 50000 ∧ ∀ es, d = .tuple es → SeqAt.shaped d = true ∧ es.length ≤ 1000 ∧ ∀ e ∈ es, ∀ n, e = .int n → okN n
def SmallI (n : Nat) (d : PyData) : Prop := shwE d = true ∧ d.depth ≤ n ∧ cwE d ≤ 2000 + 8000 * n ∧ d.canLay0 = true ∧ ∀ n, d = .int n → okN n
section
variable {K : PySem.W.Frag} {H : Hp} {ws : List Addr} {n : Nat} {vs : List V} {ds : List PyData}
theorem sm_all (h : ∀ e ∈ ds, SmallI n e) : shwsE ds = true ∧ PyData.depthAll ds ≤ n ∧ cwsE ds ≤ (2002 + 8000 * n) * ds.length ∧ PyData.canLayAll0 ds = true := by
  induction ds with
  | nil => exact ⟨rfl, Nat.zero_le _, Nat.le_refl _, rfl⟩
  | cons d ds ih =>
    obtain ⟨a, b, c, e⟩ := ih fun x hx => h x (List.mem_cons_of_mem _ hx)
    obtain ⟨i1, i2, i3, i4, _⟩ := h d List.mem_cons_self
    refine ⟨by simp only [shwsE, i1, a, Bool.and_self], by simp only [PyData.depthAll]; omega, ?_, by simp only [PyData.canLayAll0, i4, e, Bool.and_self]⟩
    simp only [cwsE, List.length_cons]
    rw [Nat.mul_add, Nat.mul_one]
    omega
theorem si_int {i : Int} (h0 : -1000000000000000000000000000000000000000000000000000000000000 ≤ i) (h1 : i ≤ 1000000000000000000000000000000000000000000000000000000000000) : SmallI n (.int i) :=
  ⟨decide_eq_true (okI_of (by omega) (by omega)), by simp only [PyData.depth]; omega, by simp only [cwE]; omega, rfl, fun j e => by cases e; exact ⟨h0, h1⟩⟩
theorem si_str {s : Str} (a : (s.cps.toList.all fun c => decide (c < 16 ^ 8)) = true) (b : (PyData.strOk s && decide (10 * s.length + 4 ≤ 2000)) = true) : SmallI n (.str s) := by
  obtain ⟨b1, b2⟩ := Bool.and_eq_true_iff.mp b
  have b2 := of_decide_eq_true b2
  exact ⟨a, by simp only [PyData.depth]; omega, by simp only [cwE]; omega, b1, fun j e => nomatch e⟩
theorem fn_seq {es : List PyData} (h : ∀ e ∈ es, SmallI 1 e) (l : es.length ≤ 4) : Fn (.list es) ∧ Fn (.tuple es) := by
  obtain ⟨a, b, c, d⟩ := sm_all h
  have := Nat.mul_le_mul_left (2002 + 8000 * 1) l
  refine ⟨⟨by simp only [shwE]; exact a, by simp only [PyData.depth]; omega, by simp only [cwE]; omega, fun es e => nomatch e⟩, ⟨by simp only [shwE]; exact a, by simp only [PyData.depth]; omega, by simp only [cwE]; omega, fun fs e => ?_⟩⟩
  cases e
  exact ⟨shaped_of (by simp only [PyData.canLay0]; exact d) (by simp only [PyData.depth]; omega), by omega, fun e he => (h e he).2.2.2.2⟩
end
mutual
theorem De.kp {K : PySem.W.Frag} {H H' : Hp} (k : Kp [] H H') : ∀ (d : PyData) (v : V), De K H v d → De K H' v d
  | .none, _, h => by cases h; exact .non
  | .bool b, _, h => by cases h; exact .bl b
  | .int i, _, h => by cases h; exact .int i
  | .str x, _, h => by cases h; exact .str x
  | .list ds, _, h => by
    cases h with
    | lst hs ha => exact .lst (k.seqL not_nil hs) (DeAll.kp k ds _ ha)
  | .tuple ds, _, h => by
    cases h with
    | tup hs ha => exact .tup (k.seqT hs) (DeAll.kp k ds _ ha)
  | .dict _, _, h => by
    cases h with
    | emp h => exact .emp (k.at_ _ _ h not_nil)
theorem DeAll.kp {K : PySem.W.Frag} {H H' : Hp} (k : Kp [] H H') : ∀ (ds : List PyData) (vs : List V), DeAll K H vs ds → DeAll K H' vs ds
  | [], _, h => by cases h; exact .nil
  | d :: ds, _, h => by
    cases h with
    | cons h1 h2 => exact .cons (De.kp k d _ h1) (DeAll.kp k ds _ h2)
end
theorem De.any {K : PySem.W.Frag} {H : Hp} {v : V} {d : PyData} (h : De K H v d) : Any K H v d := by
  refine ⟨?_, fun n e => ?_⟩
  · cases h with
    | non => exact .base .non
    | bl b => exact .base (.bl b)
    | int i => exact .base (.int i)
    | str x => exact .base (.str x)
    | lst hs _ =>
      rcases hs with (h | ⟨o, h⟩) | ⟨o, its, k, e, c, r⟩
      · exact .base (.lst h)
      · exact .base (.frz h)
      · exact .kList e c
    | tup hs _ =>
      rcases hs with (h | ⟨o, h⟩) | ⟨o, its, k, e, c, r⟩
      · exact .base (.tup h)
      · exact .fTuple h
      · exact .kTuple e c
    | emp h => exact .base (.dK h)
  · subst e
    cases h
    rfl
/-- a program made, of a size and rows that fit -/
theorem mk_prog {K : PySem.W.Frag} {CP XS XP : Addr} {E : XK} {H : Hp} {Q : VK} {n : Int} {R0 : Addr} {xs : List V} {ds : List PyData} (hR : H R0 = some (.lst xs)) (rv : RowsV K H [] xs ds) (l : xs.length ≤ 1000) (w : whD (.int n) 1 1000000000000000000 = true) (b : badAt ds n = none)
    (k : ∀ p R H', Fr H p → Fr H R → p ≠ R → Kp [] H H' → ProgAt CP H' p R n xs → Q (.ref p) H') : Made CP (sp_pinit K CP XS XP) E H Q fun x => [.ref x, .int n, .ref R0] := by
  refine i_made fun p dd fp fd ne => ?_
  have k1 : Kp [] H (upd H dd (.own p)) := Kp.new fd
  have k0 : Kp [] H (upd (upd H dd (.own p)) p (.ins CP dd [])) := Kp.upd k1 fp
  refine ⟨p, dd, .int n, .ref R0, .int n, rfl, upd_same, Any.int n, fun e => (by rw [w] at e; cases e), fun m em _ => ?_⟩
  cases em
  refine .inr ⟨R0, xs, ds, rfl, k0.at_ _ _ hR not_nil, rv.kp k0, l, fun i bi => (by rw [b] at bi; cases bi), fun _ R H' fR kk hp hR' => ⟨rfl, k p R H' fp (k0.free fR) ?_ (kp_made fp fd kk) ⟨dd, hp, hR'⟩⟩⟩
  intro e
  have := fR.e
  rw [← e, upd_same] at this
  cases this
theorem deAll_of {K : PySem.W.Frag} {H : Hp} : ∀ (xs : List V) (ds : List PyData), xs.length = ds.length → (∀ (i : Nat) x, xs[i]? = some x → ∃ d, ds[i]? = some d ∧ De K H x d) → DeAll K H xs ds
  | [], [], _, _ => .nil
  | [], _ :: _, e, _ => nomatch e
  | _ :: _, [], e, _ => nomatch e
  | x :: xs, d :: ds, e, h => by
    obtain ⟨d', e1, hd⟩ := h 0 x rfl
    cases e1
    exact .cons hd (deAll_of xs ds (Nat.succ.inj e) fun i y hy => h (i + 1) y hy)
theorem RowsV.de {K : PySem.W.Frag} {H : Hp} {ws : List Addr} {xs : List V} {ds : List PyData} (h : RowsV K H ws xs ds) : DeAll K H xs ds := deAll_of xs ds h.1 fun i x hx => let ⟨d, a, b, _⟩ := h.2 i x hx; ⟨d, a, b.de⟩
theorem lim_mono {s : Str} {size many size' many' : Int} (a : size ≤ size') (b : many ≤ many') : limS s size many ≤ limS s size' many' := by
  unfold limS
  split
  · exact a
  · split <;> omega
theorem fitS_mono {s : Str} {d : PyData} {size many size' many' : Int} (a : size ≤ size') (b : many ≤ many') (h : fitS s d size many = true) : fitS s d size' many' = true := by
  cases d with
  | int n =>
    simp only [fitS] at h ⊢
    by_cases c : s = "n"
    · rw [if_pos c]
    · rw [if_neg c] at h ⊢
      have := of_decide_eq_true h
      have := lim_mono (s := s) a b
      exact decide_eq_true ⟨by omega, by omega⟩
  | _ => cases h
theorem rowOk_mono {d : PyData} {size many size' many' : Int} (a : size ≤ size') (b : many ≤ many') (h : rowOk d size many = true) : rowOk d size' many' = true := by
  unfold rowOk at h ⊢
  split at h
  · rename_i z ds
    try dsimp only
    split at h
    · rename_i s e
      try rw [e]
      try dsimp only
      unfold rowTail at h ⊢
      simp only [Bool.and_eq_true] at h ⊢
      refine ⟨h.1, ?_, h.2.2⟩
      unfold fitAll at h ⊢
      rw [List.all_eq_true] at h ⊢
      exact fun q hq => fitS_mono a b (h.2.1 q hq)
    · cases h
  · cases h
theorem bad_none {ds : List PyData} {n : Int} (h : ∀ d ∈ ds, rowOk d n ds.length = true) : badAt ds n = none :=
  badAt_none fun j hj d hd => by rw [h d (List.mem_of_getElem? hd)]; rfl
theorem key_small {w : Str} (h : w ∈ kv_SHAPES.map (·.1)) : (w.cps.toList.all fun c => decide (c < 16 ^ 8)) = true ∧ (PyData.strOk w && decide (10 * w.length + 4 ≤ 2000)) = true := by
  have all : ∀ w ∈ kv_SHAPES.map (·.1), (w.cps.toList.all fun c => decide (c < 16 ^ 8)) = true ∧ (PyData.strOk w && decide (10 * w.length + 4 ≤ 2000)) = true := by decide +kernel
  exact all w h
theorem Row.small {size many : Int} {d : PyData} (r : Row size many d) : ∃ es, d = .tuple es ∧ (∀ e ∈ es, SmallI 1 e) ∧ es.length ≤ 4 := by
  obtain ⟨w, es, rfl, hw, l, _, o⟩ := r
  refine ⟨_, rfl, fun e he => ?_, by rw [List.length_cons]; omega⟩
  rcases List.mem_cons.mp he with rfl | he
  · exact si_str (key_small hw).1 (key_small hw).2
  · obtain ⟨n, rfl, n1, n2⟩ := o e he
    exact si_int n1 n2
theorem Row.fn {size many : Int} {d : PyData} (r : Row size many d) : Fn d := by
  obtain ⟨es, rfl, s, l⟩ := r.small
  exact (fn_seq s l).2
theorem Row.lay {size many : Int} {d : PyData} (r : Row size many d) : d.canLay0 = true ∧ d.depth ≤ 3 := by
  obtain ⟨es, rfl, s, l⟩ := r.small
  obtain ⟨_, b, _, d⟩ := sm_all s
  exact ⟨by simp only [PyData.canLay0]; exact d, by simp only [PyData.depth]; omega⟩
theorem rows_lay {size many : Int} : ∀ {ds : List PyData}, (∀ d ∈ ds, Row size many d) → PyData.canLayAll0 ds = true ∧ PyData.depthAll ds ≤ 3
  | [], _ => ⟨rfl, Nat.zero_le _⟩
  | d :: ds, h => by
    obtain ⟨a, b⟩ := rows_lay fun x hx => h x (List.mem_cons_of_mem _ hx)
    obtain ⟨c, e⟩ := (h d List.mem_cons_self).lay
    exact ⟨by simp only [PyData.canLayAll0, c, a, Bool.and_self], by simp only [PyData.depthAll]; omega⟩
theorem fn_all : ∀ {ds : List PyData}, (∀ d ∈ ds, Fn d) → shwsE ds = true ∧ PyData.depthAll ds ≤ 3 ∧ cwsE ds ≤ 50002 * ds.length
  | [], _ => ⟨rfl, Nat.zero_le _, Nat.le_refl _⟩
  | d :: ds, h => by
    obtain ⟨a, b, c⟩ := fn_all fun e he => h e (List.mem_cons_of_mem _ he)
    obtain ⟨i1, i2, i3, _⟩ := h d List.mem_cons_self
    exact ⟨by simp only [shwsE, i1, a, Bool.and_self], by simp only [PyData.depthAll]; omega, by simp only [cwsE, List.length_cons]; omega⟩
theorem pdat_ok {size many n : Int} {ds : List PyData} (h : ∀ d ∈ ds, Row size many d) : SeqAt.shaped (pdat n ds) = true ∧ (pdat n ds).canLay0 = true := by
  obtain ⟨a, b⟩ := rows_lay h
  have e : (pdat n ds).canLay0 = true := by
    simp only [pdat, PyData.canLay0, PyData.canLayAll0, a, Bool.and_self]
  exact ⟨shaped_of e (by simp only [pdat, PyData.depth, PyData.depthAll]; omega), e⟩
theorem rowsV_of {K : PySem.W.Frag} {H : Hp} {xs : List V} {ds : List PyData} {size many : Int} (h : DpAll K H xs ds) (r : ∀ d ∈ ds, Row size many d) : RowsV K H [] xs ds := by
  refine ⟨dpa_len h, fun i x hx => ?_⟩
  obtain ⟨d, hd, hx⟩ := dpa_getV h hx
  have rd := r d (List.mem_of_getElem? hd)
  refine ⟨d, hd, .inl (dx_imm d x rd.imm hx), fun es e => ?_⟩
  obtain ⟨a, b, _⟩ := rd.fn.2.2.2 es e
  exact ⟨a, b⟩
theorem eqvAll_len : ∀ {ds es : List PyData}, ds.length ≠ es.length → PyData.eqvAll ds es = false
  | [], [], h => absurd rfl h
  | [], _ :: _, _ => rfl
  | _ :: _, [], _ => rfl
  | d :: ds, e :: es, h => by
    simp only [PyData.eqvAll]
    rw [eqvAll_len (ds := ds) (es := es) fun z => h (by rw [List.length_cons, List.length_cons, z]), Bool.and_false]
theorem eqv_pdat_len {n m : Int} {ds es : List PyData} (h : ds.length ≠ es.length) : PyData.eqv (pdat n ds) (pdat m es) = false := by
  simp only [pdat, PyData.eqv, PyData.eqvAll]
  rw [eqvAll_len h]
  simp
theorem eqv_pdat_int {n m : Int} {ds es : List PyData} (h : n ≠ m) : PyData.eqv (pdat n ds) (pdat m es) = false := by
  simp only [pdat, PyData.eqv, PyData.eqvAll]
  have e : (n == m) = false := beq_eq_false_iff_ne.mpr h
  rw [e]
  rfl
theorem nf_tie {K : PySem.W.Frag} {C : Addr} : PySem.W.notFirst K C (.ref C) = true := by
  unfold PySem.W.notFirst
  simp
theorem nf_ty {K : PySem.W.Frag} {C : Addr} : ∀ n ∈ tyNames, PySem.W.notFirst K C (.type n) = true := by
  intro n hn
  simp only [tyNames, List.mem_cons, List.not_mem_nil, or_false] at hn
  rcases hn with rfl | rfl | rfl | rfl | rfl | rfl | rfl <;> kernel_rfl
theorem i_notB {H : Hp} {Q : VK} {a b : Bool} (q : Q (.bl (!decide (a = b))) H) : rNotB (.bl a) (.bl b) H Q := ⟨a, b, rfl, rfl, q⟩
theorem i_isB {H : Hp} {Q : VK} {a b : Bool} (q : Q (.bl (decide (a = b))) H) : rIsB (.bl a) (.bl b) H Q := ⟨a, b, rfl, rfl, q⟩
theorem all_rep (n : Nat) : (List.replicate n true).all id = true := by simp
theorem Row.mono {size many size' many' : Int} {d : PyData} (r : Row size many d) (a : size ≤ size') (b : many ≤ many') : Row size' many' d := by
  obtain ⟨w, es, e, hw, l, ok, o⟩ := r
  exact ⟨w, es, e, hw, l, rowOk_mono a b ok, o⟩
theorem rows_repr {K : PySem.W.Frag} {H : Hp} {Q : VK} {M : Addr} {xs : List V} {ds : List PyData} {size many : Int} (hM : H M = some (.lst xs)) (da : DpAll K H xs ds) (r : ∀ d ∈ ds, Row size many d) (l : ds.length ≤ 12) (q : Q (.str (PyData.list ds).shown) H) : rReprE K [.ref M] H Q := by
  obtain ⟨a, b, c⟩ := fn_all fun d hd => (r d hd).fn
  have big : (700000 : Nat) ≤ sizeLine := by decide
  exact i_reprE (.lst (SqL.of hM) (DpAll.de _ _ da)) (by simp only [shwE]; exact a) (by simp only [PyData.depth]; omega) (by simp only [cwE]; omega) q
theorem i_neSame {α : Type} {a : α} {d : Decidable (a = a)} {p q : Prop} {e : Decidable ((!@decide (a = a) d) = true)} (h : q) : @ite Prop ((!@decide (a = a) d) = true) e p q := by
  rw [if_neg (by rw [decide_eq_true rfl]; exact Bool.false_ne_true)]
  exact h
instance red_neSame {α : Type} {a : α} {d : Decidable (a = a)} {p q : Prop} {e : Decidable ((!@decide (a = a) d) = true)} : Red (@ite Prop ((!@decide (a = a) d) = true) e p q) q := ⟨i_neSame⟩
theorem k_tupOf {X : Cx} {K : PySem.W.Frag} (h : X.K = K) : CallR X (.type "tuple") (fun xs H Q => ∃ p ys, xs = [.ref p] ∧ ((SqL K H p ys ∧ ∀ l, H l = none → Q (.ref l) (upd H l (.tup ys))) ∨ (SqT K H p ys ∧ Q (.ref p) H))) := h ▸ call_tuple_of

/-! ### the plan -/
def loopR (k : Int) : Option Int → List (Str × List Int)
  | none => [("put", [0, 0]), ("put", [1, 1]), ("put", [2, k]), ("add", [0, 1]), ("less", [0, 2, 3])]
  | some g => [("put", [0, 0]), ("put", [1, 1]), ("put", [2, k]), ("add", [0, 1]), ("fork", [g]), ("less", [0, 2, 3])]
def Pre (n : Int) (rs : List (Str × List Int)) : Prop := rs = [] ∨ ∃ k f, 3 ≤ n ∧ (1 ≤ k ∧ k ≤ 4) ∧ (f = none ∨ f = some 5 ∨ f = some 6) ∧ rs = loopR k f
theorem cell_at {n : Int} (c : Int) (h : 0 ≤ c) (g : c < n) : cellOk c n := ⟨h, g⟩
theorem pre_rows {n many : Int} {rs : List (Str × List Int)} (p : Pre n rs) (l : (rs.length : Int) ≤ many) (m : many ≤ 1000) (z : n ≤ 1000000000000000000) : ∀ r ∈ rs, Row n many (rowD r) ∧ LowR r := by
  rcases p with rfl | ⟨k, f, n3, hk, hf, rfl⟩
  · exact fun r h => nomatch h
  have c0 : cellOk 0 n := ⟨by omega, by omega⟩
  have c1 : cellOk 1 n := ⟨by omega, by omega⟩
  have c2 : cellOk 2 n := ⟨by omega, by omega⟩
  have o : ∀ x : Int, 0 ≤ x → x ≤ 10 → okN x := fun x a b => ⟨by omega, by omega⟩
  have w : ∀ x : Int, 0 ≤ x → x ≤ 10 → -1000000000000000000000 ≤ x ∧ x ≤ 1000000000000000000000 := fun x a b => ⟨by omega, by omega⟩
  have r1 : Row n many (rowD ("put", [0, 0])) ∧ LowR ("put", [0, 0]) := ⟨row_cn (by decide +kernel) (by decide +kernel) c0 (o 0 (by omega) (by omega)) z, low2 (w 0 (by omega) (by omega)) (w 0 (by omega) (by omega))⟩
  have r2 : Row n many (rowD ("put", [1, 1])) ∧ LowR ("put", [1, 1]) := ⟨row_cn (by decide +kernel) (by decide +kernel) c1 (o 1 (by omega) (by omega)) z, low2 (w 1 (by omega) (by omega)) (w 1 (by omega) (by omega))⟩
  have r3 : Row n many (rowD ("put", [2, k])) ∧ LowR ("put", [2, k]) := ⟨row_cn (w := Str.ofString "put") (by decide +kernel) (by decide +kernel) c2 (o k (by omega) (by omega)) z, low2 (w 2 (by omega) (by omega)) (w k (by omega) (by omega))⟩
  have r4 : Row n many (rowD ("add", [0, 1])) ∧ LowR ("add", [0, 1]) := ⟨row_cc (by decide +kernel) (by decide +kernel) c0 c1 z, low2 (w 0 (by omega) (by omega)) (w 1 (by omega) (by omega))⟩
  have r6 : 3 ≤ many → Row n many (rowD ("less", [0, 2, 3])) ∧ LowR ("less", [0, 2, 3]) := fun m3 => ⟨row_ccr (by decide +kernel) (by decide +kernel) c0 c2 ⟨by omega, m3⟩ z m, low3 (w 0 (by omega) (by omega)) (w 2 (by omega) (by omega)) (w 3 (by omega) (by omega))⟩
  intro r h
  rcases hf with rfl | hf
  · have l5 : (5 : Int) ≤ many := l
    have h : r = (Str.ofString "put", [0, 0]) ∨ r = (Str.ofString "put", [1, 1]) ∨ r = (Str.ofString "put", [2, k]) ∨ r = (Str.ofString "add", [0, 1]) ∨ r = (Str.ofString "less", [0, 2, 3]) := by simpa [loopR] using h
    rcases h with rfl | rfl | rfl | rfl | rfl
    · exact r1
    · exact r2
    · exact r3
    · exact r4
    · exact r6 (by omega)
  · obtain ⟨g, rfl, g5, g6⟩ : ∃ g, f = some g ∧ 5 ≤ g ∧ g ≤ 6 := by
      rcases hf with rfl | rfl
      · exact ⟨5, rfl, by omega, by omega⟩
      · exact ⟨6, rfl, by omega, by omega⟩
    have l6 : (6 : Int) ≤ many := l
    have h : r = (Str.ofString "put", [0, 0]) ∨ r = (Str.ofString "put", [1, 1]) ∨ r = (Str.ofString "put", [2, k]) ∨ r = (Str.ofString "add", [0, 1]) ∨ r = (Str.ofString "fork", [g]) ∨ r = (Str.ofString "less", [0, 2, 3]) := by simpa [loopR] using h
    rcases h with rfl | rfl | rfl | rfl | rfl | rfl
    · exact r1
    · exact r2
    · exact r3
    · exact r4
    · exact ⟨row_r (w := Str.ofString "fork") (by decide +kernel) (by decide +kernel) ⟨by omega, by omega⟩ m, low1 ⟨by omega, by omega⟩⟩
    · exact r6 (by omega)
structure Plan (n : Int) (rs : List (Str × List Int)) : Prop where
  wide : 2 ≤ n ∧ n ≤ 1000000000000000000
  rows : ∀ r ∈ rs, Row n rs.length (rowD r) ∧ LowR r
  pre : ∃ L, L ≤ rs.length ∧ Pre n (rs.take L) ∧ ∀ (i : Nat) r, L ≤ i → rs[i]? = some r → Onw i r
  few : rs.length ≤ 100
/-- rows as tuples -/
def RwAt (H : Hp) (xs : List V) (rs : List (Str × List Int)) : Prop := xs.length = rs.length ∧ ∀ (i : Nat) x r, xs[i]? = some x → rs[i]? = some r → ∃ t, x = .ref t ∧ H t = some (.tup (.str r.1 :: r.2.map V.int))
theorem RwAt.kp {ws : List Addr} {H H' : Hp} {xs : List V} {rs : List (Str × List Int)} (h : RwAt H xs rs) (k : Kp ws H H') : RwAt H' xs rs :=
  ⟨h.1, fun i x r a b => let ⟨t, e, g⟩ := h.2 i x r a b; ⟨t, e, k.fix _ _ g trivial⟩⟩
theorem RwAt.nil {H : Hp} : RwAt H [] [] := ⟨rfl, fun i x r a => by simp at a⟩
theorem RwAt.snoc {H : Hp} {xs : List V} {rs : List (Str × List Int)} (h : RwAt H xs rs) {t : Addr} {r : Str × List Int} (g : H t = some (.tup (.str r.1 :: r.2.map V.int))) : RwAt H (xs ++ [.ref t]) (rs ++ [r]) := by
  refine ⟨by rw [List.length_append, List.length_append, h.1]; rfl, fun i x q a b => ?_⟩
  by_cases c : i < rs.length
  · rw [List.getElem?_append_left (by rw [h.1]; exact c)] at a
    rw [List.getElem?_append_left c] at b
    exact h.2 i x q a b
  · have lt := (List.getElem?_eq_some_iff.mp b).1
    rw [List.length_append, List.length_singleton] at lt
    have e : i = rs.length := by omega
    subst e
    rw [List.getElem?_append_right (by rw [h.1]; exact Nat.le_refl _), h.1, Nat.sub_self] at a
    rw [List.getElem?_append_right (Nat.le_refl _), Nat.sub_self] at b
    cases a
    cases b
    exact ⟨t, rfl, g⟩
theorem RwAt.cons {H : Hp} {xs : List V} {rs : List (Str × List Int)} (h : RwAt H xs rs) {t : Addr} {r : Str × List Int} (g : H t = some (.tup (.str r.1 :: r.2.map V.int))) : RwAt H (.ref t :: xs) (r :: rs) := by
  refine ⟨by rw [List.length_cons, List.length_cons, h.1], fun i x q a b => ?_⟩
  cases i with
  | zero =>
    cases a
    cases b
    exact ⟨t, rfl, g⟩
  | succ i => exact h.2 i x q a b
theorem ints_dpa {K : PySem.W.Frag} {H : Hp} (l : List Int) : DpAll K H (l.map V.int) (l.map PyData.int) := by
  induction l with
  | nil => exact .nil
  | cons n l ih => exact .cons (.int n) ih
theorem RwAt.dpa {K : PySem.W.Frag} {H : Hp} : ∀ {xs : List V} {rs : List (Str × List Int)}, RwAt H xs rs → DpAll K H xs (rs.map rowD)
  | [], [], _ => .nil
  | [], _ :: _, h => nomatch h.1
  | _ :: _, [], h => nomatch h.1
  | x :: xs, r :: rs, h => by
    obtain ⟨t, rfl, g⟩ := h.2 0 x r rfl rfl
    exact .cons (.tup (SqT.of g) (.cons (.str r.1) (ints_dpa r.2))) (RwAt.dpa ⟨Nat.succ.inj h.1, fun i y q a b => h.2 (i + 1) y q a b⟩)
theorem Kp.less {ws us : List Addr} {H H' : Hp} (k : Kp ws H H') (f : ∀ b ∈ ws, b ∈ us ∨ Fr H b) : Kp us H H' :=
  ⟨fun a u h n => k.at_ a u h fun m => (f a m).elim n fun z => (by
    have e := z.e
    rw [h] at e
    cases e), k.fix, k.dom⟩
def sp_loop : Sp := fun vs H Q _ => ∃ (p : Addr) (n : Int), vs = [.ref p, .int n] ∧ PotAt H p ∧ (2 ≤ n ∧ n ≤ 1000000000000000000) ∧
  ∀ F xs rs H', Fr H F → H' F = some (.lst xs) → RwAt H' xs rs → Pre n rs → PotAt H' p → Kp [p] H H' → Q (.ref F) H'
theorem sc_law_loop : FnScope ["_law_pot_here", "_law_wide", "_law_found"] ["_law_pot_here", "_law_wide"] (defScope s_law_loop) :=
  ⟨rfl, rfl, rfl, by decide +kernel, rfl, by decide +kernel, by decide +kernel⟩
theorem ok_law_loop {P : Program} {w : World} {K : PySem.W.Frag} {mg : Str → Option Value} {base : Heap} (T : Txt w K mg) :
    FnG P w K mg base 2 T.a_law_loop T.d_law_loop ["_law_pot_here", "_law_wide"] sp_loop := by
  refine okD T.F_law_loop sc_law_loop (fun vs H Q E h => ?_) (fun cdv A outer s H vs Q E hr h => ?_)
  · first
      | (obtain ⟨_, rfl, _⟩ := h; rfl)
      | (obtain ⟨_, _, rfl, _⟩ := h; rfl)
      | (obtain ⟨_, _, _, rfl, _⟩ := h; rfl)
      | (obtain ⟨_, _, _, _, rfl, _⟩ := h; rfl)
      | (obtain ⟨_, _, _, _, _, rfl, _⟩ := h; rfl)
      | (obtain ⟨_, _, _, _, _, _, rfl, _⟩ := h; rfl)
      | (obtain ⟨_, _, _, _, _, _, _, rfl, _⟩ := h; rfl)
      | (obtain ⟨_, _, _, _, _, _, _, _, rfl, _⟩ := h; rfl)
      | (obtain ⟨_, _, _, _, _, _, _, _, _, rfl, _⟩ := h; rfl)
      | (obtain ⟨_, _, _, _, _, _, _, _, _, _, rfl, _⟩ := h; rfl)
      | (obtain ⟨_, _, _, _, _, _, _, _, _, _, _, rfl, _⟩ := h; rfl)
      | (obtain ⟨_, _, _, _, _, _, _, _, _, _, _, _, rfl, _⟩ := h; rfl)
      | (obtain ⟨_, _, _, _, _, _, _, _, _, _, _, _, _, rfl, _⟩ := h; rfl)
      | (obtain ⟨_, _, _, _, _, _, _, _, _, _, _, _, _, _, rfl, _⟩ := h; rfl)
      | (obtain ⟨_, _, _, _, _, _, _, _, _, _, _, _, _, _, _, rfl, _⟩ := h; rfl)
      | (obtain ⟨_, _, _, _, _, _, _, _, _, _, _, _, _, _, _, _, rfl, _⟩ := h; rfl)
      | (obtain ⟨_, _, _, _, _, _, _, _, _, _, _, _, _, _, _, _, _, rfl, _⟩ := h; rfl)
      | (obtain ⟨_, _, _, _, _, _, _, _, _, _, _, _, _, _, _, _, _, _, rfl, _⟩ := h; rfl)
      | (obtain ⟨_, _, _, _, _, _, _, _, _, _, _, _, _, _, _, _, _, _, _, rfl, _⟩ := h; rfl)
  · obtain ⟨p, n, rfl, hp, hn, k⟩ := h
    have cl_Memory := T.cl_Memory
    have na_Memory_pairs := T.na_Memory_pairs
    have na_Memory_wide := T.na_Memory_wide
    have cl_Lone := T.cl_Lone
    have na_Lone_all_rows := T.na_Lone_all_rows
    have na_Lone_cells := T.na_Lone_cells
    have na_Lone_next_row := T.na_Lone_next_row
    have na_Lone_numbers := T.na_Lone_numbers
    have na_Lone_rested := T.na_Lone_rested
    have cl_Program := T.cl_Program
    have na_Program_own_rows := T.na_Program_own_rows
    have na_Program_own_size := T.na_Program_own_size
    refine ⟨_, (pss_cons (ps_if (PW.pt (pw_or (pt_cmpR op_lt (pv 1) pe_int (nomark _)) (pw_or1 (pt_cmpR op_gt (d1 (ok_law_take T) (hr.mono (by decide)) (by rfl) T.m_law_take T.F_law_take.kp T.b_law_take passL (pa_cons (pv 0) (pa_cons pe_int pa_nil))) pe_int (nomark _))))) (pss_one (ps_ret (pe_lst pa_nil))) pss_nil)
      (pss_cons (ps_set (i := 2) sc_law_loop.nd rfl (Or.inl rfl) (pe_lst (pa_cons (pe_tup (pa_cons pe_str (pa_cons pe_int (pa_cons pe_int pa_nil)))) (pa_cons (pe_tup (pa_cons pe_str (pa_cons pe_int (pa_cons pe_int pa_nil)))) (pa_cons (pe_tup (pa_cons pe_str (pa_cons pe_int (pa_cons (pe_op (k_add (K := K) rfl) pe_int (d1 (ok_law_take T) (hr.mono (by decide)) (by rfl) T.m_law_take T.F_law_take.kp T.b_law_take passL (pa_cons (pv 0) (pa_cons pe_int pa_nil)))) pa_nil)))) (pa_cons (pe_tup (pa_cons pe_str (pa_cons pe_int (pa_cons pe_int pa_nil)))) pa_nil))))))
      (pss_cons (ps_if (pt_cmpR (k_eq (K := K) rfl hr.r.units) (d1 (ok_law_take T) (hr.mono (by decide)) (by rfl) T.m_law_take T.F_law_take.kp T.b_law_take passL (pa_cons (pv 0) (pa_cons pe_int pa_nil))) pe_int (nomark _)) (pss_one (ps_expr (pe_bm PySem.F.plainAttrs_list PySem.F.slot_list_append PySem.F.type_list_append mt_append (pv 2) (pa_cons (pe_tup (pa_cons pe_str (pa_cons (pe_ix (k_ix (K := K) rfl) (pe_lst (pa_cons (pe_op (k_add (K := K) rfl) (pe_callB (k_len (K := K) rfl) (by rfl) T.n_len (by decide +kernel) (pa_cons (pv 2) pa_nil)) pe_int) (pa_cons (pe_op (k_add (K := K) rfl) (pe_callB (k_len (K := K) rfl) (by rfl) T.n_len (by decide +kernel) (pa_cons (pv 2) pa_nil)) pe_int) pa_nil))) (d1 (ok_law_take T) (hr.mono (by decide)) (by rfl) T.m_law_take T.F_law_take.kp T.b_law_take passL (pa_cons (pv 0) (pa_cons pe_int pa_nil))) (fun _ _ => rfl)) pa_nil))) pa_nil)))) pss_nil)
      (pss_one (ps_ret (pe_op (k_add (K := K) rfl) (pv 2) (pe_lst (pa_cons (pe_tup (pa_cons pe_str (pa_cons pe_int (pa_cons pe_int (pa_cons pe_int pa_nil))))) pa_nil)))))))), ?_⟩
    dsimp only [cxOf, st_1, st_2, st_3, st_4, st_5, st_6, List.length_cons, List.length_nil, List.replicate_succ, List.replicate_zero, Nat.reduceAdd, Nat.reduceSub]
    walk_at "gs"
    refine i_dec (fun c => ?_) (fun c => ?_)
    · walk_at "gs"
      exact i_new fun F fF => k F [] [] _ fF upd_same RwAt.nil (.inl rfl) (hp.kp (Kp.new fF) not_nil) (Kp.new fF)
    walk_at "gs"
    refine use_take hp (by decide) (by decide) (fun a H1 a0 a1 hp1 k1 => ?_)
    walk_at "gs"
    refine i_dec (fun c => ?_) (fun c => ?_)
    · walk_at "gs"
      exact i_new fun F fF => k F [] [] _ (k1.free fF) upd_same RwAt.nil (.inl rfl) (hp1.kp (Kp.new fF) not_nil) (Kp.trans k1 (Kp.new fF))
    walk_at "gs"
    refine i_new fun t0 ft0 => ?_
    have kt0 : Kp [] H1 (upd H1 t0 (.tup [V.str (Str.ofString "put"), V.int 0, V.int 0])) := Kp.new ft0
    have ht0 : (upd H1 t0 (.tup [V.str (Str.ofString "put"), V.int 0, V.int 0])) t0 = some (.tup [V.str (Str.ofString "put"), V.int 0, V.int 0]) := upd_same
    obtain ⟨H2, eH2⟩ : ∃ H2, H2 = upd H1 t0 (.tup [V.str (Str.ofString "put"), V.int 0, V.int 0]) := ⟨_, rfl⟩
    rw [← eH2] at kt0 ht0 ⊢
    walk_at "gs"
    refine i_new fun t1 ft1 => ?_
    have kt1 : Kp [] H2 (upd H2 t1 (.tup [V.str (Str.ofString "put"), V.int 1, V.int 1])) := Kp.new ft1
    have ht1 : (upd H2 t1 (.tup [V.str (Str.ofString "put"), V.int 1, V.int 1])) t1 = some (.tup [V.str (Str.ofString "put"), V.int 1, V.int 1]) := upd_same
    obtain ⟨H3, eH3⟩ : ∃ H3, H3 = upd H2 t1 (.tup [V.str (Str.ofString "put"), V.int 1, V.int 1]) := ⟨_, rfl⟩
    rw [← eH3] at kt1 ht1 ⊢
    walk_at "gs"
    have hp3 := (hp1.kp kt0 not_nil).kp kt1 not_nil
    refine use_take hp3 (by decide) (by decide) (fun b H4 b0 b1 hp4 k4 => ?_)
    walk_at "gs"
    refine i_new fun t2 ft2 => ?_
    have kt2 : Kp [] H4 (upd H4 t2 (.tup [V.str (Str.ofString "put"), V.int 2, V.int (1 + b)])) := Kp.new ft2
    have ht2 : (upd H4 t2 (.tup [V.str (Str.ofString "put"), V.int 2, V.int (1 + b)])) t2 = some (.tup [V.str (Str.ofString "put"), V.int 2, V.int (1 + b)]) := upd_same
    obtain ⟨H5, eH5⟩ : ∃ H5, H5 = upd H4 t2 (.tup [V.str (Str.ofString "put"), V.int 2, V.int (1 + b)]) := ⟨_, rfl⟩
    rw [← eH5] at kt2 ht2 ⊢
    walk_at "gs"
    refine i_new fun t3 ft3 => ?_
    have kt3 : Kp [] H5 (upd H5 t3 (.tup [V.str (Str.ofString "add"), V.int 0, V.int 1])) := Kp.new ft3
    have ht3 : (upd H5 t3 (.tup [V.str (Str.ofString "add"), V.int 0, V.int 1])) t3 = some (.tup [V.str (Str.ofString "add"), V.int 0, V.int 1]) := upd_same
    obtain ⟨H6, eH6⟩ : ∃ H6, H6 = upd H5 t3 (.tup [V.str (Str.ofString "add"), V.int 0, V.int 1]) := ⟨_, rfl⟩
    rw [← eH6] at kt3 ht3 ⊢
    walk_at "gs"
    have r0 := (Kp.trans (Kp.trans kt1.wide k4) (Kp.trans kt2 kt3).wide).fix _ _ ht0 trivial
    have r1 := (Kp.trans k4 (Kp.trans kt2 kt3).wide).fix _ _ ht1 trivial
    have r2 := kt3.fix _ _ ht2 trivial
    have rw0 : RwAt H6 [V.ref t0, V.ref t1, V.ref t2, V.ref t3] [(Str.ofString "put", [0, 0]), (Str.ofString "put", [1, 1]), (Str.ofString "put", [2, 1 + b]), (Str.ofString "add", [0, 1])] :=
      RwAt.cons (RwAt.cons (RwAt.cons (RwAt.cons RwAt.nil (r := (Str.ofString "add", [0, 1])) ht3) (r := (Str.ofString "put", [2, 1 + b])) r2) (r := (Str.ofString "put", [1, 1])) r1) (r := (Str.ofString "put", [0, 0])) r0
    have hp6 := (hp4.kp kt2 not_nil).kp kt3 not_nil
    have k06 : Kp [p] H H6 := Kp.trans k1 (Kp.trans (Kp.trans kt0 kt1).wide (Kp.trans k4 (Kp.trans kt2 kt3).wide))
    refine i_new fun F fF => ?_
    have kF : Kp [] H6 (upd H6 F (.lst [V.ref t0, V.ref t1, V.ref t2, V.ref t3])) := Kp.new fF
    have hF : (upd H6 F (.lst [V.ref t0, V.ref t1, V.ref t2, V.ref t3])) F = some (.lst [V.ref t0, V.ref t1, V.ref t2, V.ref t3]) := upd_same
    obtain ⟨H7, eH7⟩ : ∃ H7, H7 = upd H6 F (.lst [V.ref t0, V.ref t1, V.ref t2, V.ref t3]) := ⟨_, rfl⟩
    show tSeq _ _ _ _ (upd H6 F (.lst [V.ref t0, V.ref t1, V.ref t2, V.ref t3]))
    rw [← eH7] at kF hF ⊢
    have hp7 := hp6.kp kF not_nil
    have rw7 := rw0.kp kF
    have nFp : F ≠ p := Ne.symm (hp6.ne fF)
    have fin : ∀ (H8 H9 : Hp) (xs : List V) (rs : List (Str × List Int)) (L t : Addr), Kp [p, F] H7 H8 → PotAt H8 p → RwAt H8 xs rs → Pre n (rs ++ [(Str.ofString "less", [0, 2, 3])]) → Kp [] H8 H9 → H9 t = some (.tup [V.str (Str.ofString "less"), V.int 0, V.int 2, V.int 3]) → H9 L = some (.lst (xs ++ [.ref t])) → Fr H8 L → Q (.ref L) H9 := by
      intro H8 H9 xs rs L t k78 hp8 rw8 pre k89 ht hL fL
      have k08 : Kp [p, F] H H8 := Kp.trans (Kp.trans (k06.mono fun b m => by rw [List.mem_singleton.mp m]; exact List.mem_cons_self) kF.wide) k78
      have k08' : Kp [p] H H8 := Kp.less k08 fun b m => by
        rcases List.mem_cons.mp m with e | m
        · exact .inl (by rw [e]; exact List.mem_cons_self)
        · rw [List.mem_singleton.mp m]
          exact .inr (k06.free fF)
      exact k L _ _ H9 (k08'.free fL) hL ((rw8.kp k89).snoc (r := (Str.ofString "less", [0, 2, 3])) ht) pre (hp8.kp k89 not_nil) (Kp.trans k08' k89.wide)
    walk_at "gs"
    refine use_take hp7 (by decide) (by decide) (fun c H8 c0 c1 hp8 k8 => ?_)
    have hF8 := k8.at_ _ _ hF (not_one nFp)
    have rw8 := rw7.kp k8
    have k8w : Kp [p, F] H7 H8 := k8.mono fun b m => by rw [List.mem_singleton.mp m]; exact List.mem_cons_self
    walk_at "gs"
    refine i_dec (fun cc => ?_) (fun cc => ?_)
    · walk_at "gs"
      refine i_new fun M fM => ?_
      have kM : Kp [] H8 (upd H8 M (.lst [V.int 5, V.int 6])) := Kp.new fM
      have hM : (upd H8 M (.lst [V.int 5, V.int 6])) M = some (.lst [V.int 5, V.int 6]) := upd_same
      obtain ⟨H9, e9⟩ : ∃ H9, H9 = upd H8 M (.lst [V.int 5, V.int 6]) := ⟨_, rfl⟩
      show tCall _ _ _ _ _ (upd H8 M (.lst [V.int 5, V.int 6])) _
      rw [← e9] at kM hM ⊢
      have nMp : M ≠ p := Ne.symm (hp8.ne fM)
      walk_at "gs"
      refine use_take (hp8.kp kM not_nil) (by decide) (by decide) (fun m H10 m0 m1 hp10 k10 => ?_)
      have hM10 := k10.at_ _ _ hM (not_one nMp)
      obtain ⟨g, hat, hg⟩ : ∃ g : Int, atI [V.int 5, V.int 6] m = some (.int g) ∧ (g = 5 ∨ g = 6) := by
        obtain ⟨m', rfl⟩ := Int.eq_ofNat_of_zero_le m0
        have e : m' = 0 ∨ m' = 1 := by omega
        rcases e with rfl | rfl
        · exact ⟨5, rfl, .inl rfl⟩
        · exact ⟨6, rfl, .inr rfl⟩
      walk_at "gs"
      refine i_new fun t4 ft4 => ?_
      have kt4 : Kp [] H10 (upd H10 t4 (.tup [V.str (Str.ofString "fork"), V.int g])) := Kp.new ft4
      have ht4 : (upd H10 t4 (.tup [V.str (Str.ofString "fork"), V.int g])) t4 = some (.tup [V.str (Str.ofString "fork"), V.int g]) := upd_same
      obtain ⟨H11, e11⟩ : ∃ H11, H11 = upd H10 t4 (.tup [V.str (Str.ofString "fork"), V.int g]) := ⟨_, rfl⟩
      rw [← e11] at kt4 ht4 ⊢
      have k8B : Kp [p] H8 H11 := Kp.trans kM.wide (Kp.trans k10 kt4.wide)
      have hF11 := k8B.at_ _ _ hF8 (not_one nFp)
      have hp11 := hp10.kp kt4 not_nil
      walk_at "gs"
      have kA : Kp [F] H11 (upd H11 F (.lst ([V.ref t0, V.ref t1, V.ref t2, V.ref t3] ++ [V.ref t4]))) := kp_set hF11 (fun z => z)
      have hFA : (upd H11 F (.lst ([V.ref t0, V.ref t1, V.ref t2, V.ref t3] ++ [V.ref t4]))) F = some (.lst ([V.ref t0, V.ref t1, V.ref t2, V.ref t3] ++ [V.ref t4])) := upd_same
      obtain ⟨H12, e12⟩ : ∃ H12, H12 = upd H11 F (.lst ([V.ref t0, V.ref t1, V.ref t2, V.ref t3] ++ [V.ref t4])) := ⟨_, rfl⟩
      rw [← e12] at kA hFA ⊢
      have hp12 := hp11.kp kA (not_one (Ne.symm nFp))
      have rw12 := ((rw8.kp k8B).snoc (r := (Str.ofString "fork", [g])) ht4).kp kA
      have k7C : Kp [p, F] H7 H12 := Kp.trans k8w (Kp.trans (k8B.mono fun b m => by rw [List.mem_singleton.mp m]; exact List.mem_cons_self) (kA.mono fun b m => by rw [List.mem_singleton.mp m]; exact List.mem_cons_of_mem _ List.mem_cons_self))
      refine i_new fun t ft => ?_
      have kt : Kp [] H12 (upd H12 t (.tup [V.str (Str.ofString "less"), V.int 0, V.int 2, V.int 3])) := Kp.new ft
      have ht : (upd H12 t (.tup [V.str (Str.ofString "less"), V.int 0, V.int 2, V.int 3])) t = some (.tup [V.str (Str.ofString "less"), V.int 0, V.int 2, V.int 3]) := upd_same
      obtain ⟨H13, e13⟩ : ∃ H13, H13 = upd H12 t (.tup [V.str (Str.ofString "less"), V.int 0, V.int 2, V.int 3]) := ⟨_, rfl⟩
      rw [← e13] at kt ht ⊢
      have hF13 := kt.at_ _ _ hFA not_nil
      walk_at "gs"
      refine i_new fun M2 fM2 => ?_
      have kM2 : Kp [] H13 (upd H13 M2 (.lst [V.ref t])) := Kp.new fM2
      have hM2 : (upd H13 M2 (.lst [V.ref t])) M2 = some (.lst [V.ref t]) := upd_same
      have hFM := kM2.at_ _ _ hF13 not_nil
      walk_at "gs"
      refine i_new fun L fL => ?_
      have kL : Kp [] (upd H13 M2 (.lst [V.ref t])) (upd (upd H13 M2 (.lst [V.ref t])) L (.lst ([V.ref t0, V.ref t1, V.ref t2, V.ref t3] ++ [V.ref t4] ++ [V.ref t]))) := Kp.new fL
      have kz := Kp.trans kM2 kL
      exact fin H12 _ ([V.ref t0, V.ref t1, V.ref t2, V.ref t3] ++ [V.ref t4]) _ L t k7C hp12 rw12 (.inr ⟨1 + b, some g, by omega, by omega, .inr (hg.imp (fun e => by rw [e]) (fun e => by rw [e])), rfl⟩) (Kp.trans kt kz) (kz.at_ _ _ ht not_nil) upd_same (kt.free (kM2.free fL))
    · walk_at "gs"
      refine i_new fun t ft => ?_
      have kt : Kp [] H8 (upd H8 t (.tup [V.str (Str.ofString "less"), V.int 0, V.int 2, V.int 3])) := Kp.new ft
      have ht : (upd H8 t (.tup [V.str (Str.ofString "less"), V.int 0, V.int 2, V.int 3])) t = some (.tup [V.str (Str.ofString "less"), V.int 0, V.int 2, V.int 3]) := upd_same
      obtain ⟨H9, e9⟩ : ∃ H9, H9 = upd H8 t (.tup [V.str (Str.ofString "less"), V.int 0, V.int 2, V.int 3]) := ⟨_, rfl⟩
      rw [← e9] at kt ht ⊢
      have hF9 := kt.at_ _ _ hF8 not_nil
      walk_at "gs"
      refine i_new fun M fM => ?_
      have kM : Kp [] H9 (upd H9 M (.lst [V.ref t])) := Kp.new fM
      have hM : (upd H9 M (.lst [V.ref t])) M = some (.lst [V.ref t]) := upd_same
      have hFM := kM.at_ _ _ hF9 not_nil
      walk_at "gs"
      refine i_new fun L fL => ?_
      have kL : Kp [] (upd H9 M (.lst [V.ref t])) (upd (upd H9 M (.lst [V.ref t])) L (.lst ([V.ref t0, V.ref t1, V.ref t2, V.ref t3] ++ [V.ref t]))) := Kp.new fL
      exact fin H8 _ [V.ref t0, V.ref t1, V.ref t2, V.ref t3] _ L t k8w hp8 rw8 (.inr ⟨1 + b, none, by omega, by omega, .inl rfl, rfl⟩) (Kp.trans kt (Kp.trans kM kL)) ((Kp.trans kM kL).at_ _ _ ht not_nil) upd_same (kt.free (kM.free fL))

def sp_plan (K : PySem.W.Frag) : Sp := fun vs H Q _ => ∃ (p : Addr) (high : Int), vs = [.ref p, .int high] ∧ PotAt H p ∧ (0 ≤ high ∧ high ≤ 50) ∧
  ∀ t F n xs rs H', SqT K H' t [.int n, .ref F] → Fr H F → H' F = some (.lst xs) → RwAt H' xs rs → Plan n rs → PotAt H' p → Kp [p] H H' → Q (.ref t) H'
theorem sc_law_plan : FnScope ["_law_pot_here", "_law_high", "_law_wide", "_law_rows", "_law_many", "_law_round_forks", "_law_forks", "_law_row"] ["_law_pot_here", "_law_high"] (defScope s_law_plan) :=
  ⟨rfl, rfl, rfl, by decide +kernel, rfl, by decide +kernel, by decide +kernel⟩
theorem ok_law_plan {P : Program} {w : World} {K : PySem.W.Frag} {mg : Str → Option Value} {base : Heap} (T : Txt w K mg) :
    FnG P w K mg base 5 T.a_law_plan T.d_law_plan ["_law_pot_here", "_law_high"] (sp_plan K) := by
  refine okD T.F_law_plan sc_law_plan (fun vs H Q E h => ?_) (fun cdv A outer s H vs Q E hr h => ?_)
  · first
      | (obtain ⟨_, rfl, _⟩ := h; rfl)
      | (obtain ⟨_, _, rfl, _⟩ := h; rfl)
      | (obtain ⟨_, _, _, rfl, _⟩ := h; rfl)
      | (obtain ⟨_, _, _, _, rfl, _⟩ := h; rfl)
      | (obtain ⟨_, _, _, _, _, rfl, _⟩ := h; rfl)
      | (obtain ⟨_, _, _, _, _, _, rfl, _⟩ := h; rfl)
      | (obtain ⟨_, _, _, _, _, _, _, rfl, _⟩ := h; rfl)
      | (obtain ⟨_, _, _, _, _, _, _, _, rfl, _⟩ := h; rfl)
      | (obtain ⟨_, _, _, _, _, _, _, _, _, rfl, _⟩ := h; rfl)
      | (obtain ⟨_, _, _, _, _, _, _, _, _, _, rfl, _⟩ := h; rfl)
      | (obtain ⟨_, _, _, _, _, _, _, _, _, _, _, rfl, _⟩ := h; rfl)
      | (obtain ⟨_, _, _, _, _, _, _, _, _, _, _, _, rfl, _⟩ := h; rfl)
      | (obtain ⟨_, _, _, _, _, _, _, _, _, _, _, _, _, rfl, _⟩ := h; rfl)
      | (obtain ⟨_, _, _, _, _, _, _, _, _, _, _, _, _, _, rfl, _⟩ := h; rfl)
      | (obtain ⟨_, _, _, _, _, _, _, _, _, _, _, _, _, _, _, rfl, _⟩ := h; rfl)
      | (obtain ⟨_, _, _, _, _, _, _, _, _, _, _, _, _, _, _, _, rfl, _⟩ := h; rfl)
      | (obtain ⟨_, _, _, _, _, _, _, _, _, _, _, _, _, _, _, _, _, rfl, _⟩ := h; rfl)
      | (obtain ⟨_, _, _, _, _, _, _, _, _, _, _, _, _, _, _, _, _, _, rfl, _⟩ := h; rfl)
      | (obtain ⟨_, _, _, _, _, _, _, _, _, _, _, _, _, _, _, _, _, _, _, rfl, _⟩ := h; rfl)
  · obtain ⟨p, high, rfl, hp, hh, k⟩ := h
    have cl_Memory := T.cl_Memory
    have na_Memory_pairs := T.na_Memory_pairs
    have na_Memory_wide := T.na_Memory_wide
    have cl_Lone := T.cl_Lone
    have na_Lone_all_rows := T.na_Lone_all_rows
    have na_Lone_cells := T.na_Lone_cells
    have na_Lone_next_row := T.na_Lone_next_row
    have na_Lone_numbers := T.na_Lone_numbers
    have na_Lone_rested := T.na_Lone_rested
    have cl_Program := T.cl_Program
    have na_Program_own_rows := T.na_Program_own_rows
    have na_Program_own_size := T.na_Program_own_size
    refine ⟨_, (pss_cons (ps_set (i := 2) sc_law_plan.nd rfl (Or.inl rfl) (d1 (ok_law_width T) (hr.mono (by decide)) (by rfl) T.m_law_width T.F_law_width.kp T.b_law_width passL (pa_cons (pv 0) pa_nil)))
      (pss_cons (ps_set (i := 3) sc_law_plan.nd rfl (Or.inl rfl) (d1 (ok_law_loop T) (hr.mono (by decide)) (by rfl) T.m_law_loop T.F_law_loop.kp T.b_law_loop passL (pa_cons (pv 0) (pa_cons (pv 2) pa_nil))))
      (pss_cons (ps_par (i := 4) (j := 5) (by rfl) sc_law_plan.nd rfl rfl (by decide) rfl rfl (pa_cons (pe_op (k_add (K := K) rfl) (pe_callB (k_len (K := K) rfl) (by rfl) T.n_len (by decide +kernel) (pa_cons (pv 3) pa_nil)) (d1 (ok_law_take T) (hr.mono (by decide)) (by rfl) T.m_law_take T.F_law_take.kp T.b_law_take passL (pa_cons (pv 0) (pa_cons (pe_op (k_add (K := K) rfl) (pv 1) pe_int) pa_nil)))) (pa_cons (pe_callB (k_len (K := K) rfl) (by rfl) T.n_len (by decide +kernel) (pa_cons (pe_lc (own := [("_law_row", 7)]) (g := (gName 7)) rfl sc_law_plan.nd (k_plist (K := K) rfl (pv 3)) (blkOk_by (own := [("_law_row", 7)]) (N := ["_law_pot_here", "_law_high", "_law_wide", "_law_rows", "_law_many", "_law_round_forks", "_law_forks", "_law_row"]) (sc := defScope s_law_plan) (by decide +kernel)) (fun _ _ _ _ _ => (pg_name (i := 7) sc_law_plan.nd rfl (Or.inl rfl))) (fun _ _ _ _ _ => (pts_one (pt_cmpR (k_eq (K := K) rfl hr.r.units) (pe_ix (k_ix (K := K) rfl) (pv 7) pe_int (fun _ _ => rfl)) pe_str (nomark _)))) (fun _ _ _ _ _ => (pv 7))) pa_nil)) pa_nil)) (by rfl))
      (pss_cons (ps_while (passes_of rfl) (pt_cmpR op_lt (pe_callB (k_len (K := K) rfl) (by rfl) T.n_len (by decide +kernel) (pa_cons (pv 3) pa_nil)) (pv 4) (nomark _)) (pss_cons (ps_set (i := 6) sc_law_plan.nd rfl (Or.inl rfl) (pe_op (k_add (K := K) rfl) (pe_callB (k_len (K := K) rfl) (by rfl) T.n_len (by decide +kernel) (pa_cons (pe_lc (own := [("_law_row", 7)]) (g := (gName 7)) rfl sc_law_plan.nd (k_plist (K := K) rfl (pv 3)) (blkOk_by (own := [("_law_row", 7)]) (N := ["_law_pot_here", "_law_high", "_law_wide", "_law_rows", "_law_many", "_law_round_forks", "_law_forks", "_law_row"]) (sc := defScope s_law_plan) (by decide +kernel)) (fun _ _ _ _ _ => (pg_name (i := 7) sc_law_plan.nd rfl (Or.inl rfl))) (fun _ _ _ _ _ => (pts_one (pt_cmpR (k_eq (K := K) rfl hr.r.units) (pe_ix (k_ix (K := K) rfl) (pv 7) pe_int (fun _ _ => rfl)) pe_str (nomark _)))) (fun _ _ _ _ _ => (pv 7))) pa_nil)) (pe_op o_mul pe_int (pv 5))))
      (pss_one (ps_expr (pe_bm PySem.F.plainAttrs_list PySem.F.slot_list_append PySem.F.type_list_append mt_append (pv 3) (pa_cons (d1 (ok_law_row_drawn T) (hr.mono (by decide)) (by rfl) T.m_law_row_drawn T.F_law_row_drawn.kp T.b_law_row_drawn passL (pa_cons (pv 0) (pa_cons (pv 2) (pa_cons (pe_callB (k_len (K := K) rfl) (by rfl) T.n_len (by decide +kernel) (pa_cons (pv 3) pa_nil)) (pa_cons (pv 4) (pa_cons (pv 6) pa_nil)))))) pa_nil))))))
      (pss_one (ps_ret (pe_tup (pa_cons (pv 2) (pa_cons (pv 3) pa_nil))))))))), ?_⟩
    dsimp only [cxOf, st_1, st_2, st_3, st_4, st_5, st_6, List.length_cons, List.length_nil, List.replicate_succ, List.replicate_zero, Nat.reduceAdd, Nat.reduceSub]
    walk_at "gs"
    refine ⟨p, rfl, hp, fun n H1 hn hp1 k1 => ?_⟩
    walk_at "gs"
    refine ⟨p, n, rfl, hp1, hn, fun F xs0 rs0 H2 fF hF rw0 pre hp2 k2 => ?_⟩
    have nFp : F ≠ p := Ne.symm (hp1.ne fF)
    have k02 := Kp.trans k1 k2
    have l0 : rs0.length ≤ 6 := by
      rcases pre with rfl | ⟨kk, f, _, _, hf, rfl⟩
      · exact Nat.zero_le _
      · rcases hf with rfl | rfl | rfl
        · exact (by decide : 5 ≤ 6)
        · exact Nat.le_refl 6
        · exact Nat.le_refl 6
    have lx0 := rw0.1
    walk_at "gs"
    refine use_take hp2 (by omega) (by omega) (fun m H3 m0 m1 hp3 k3 => ?_)
    have hF3 := k3.at_ _ _ hF (not_one nFp)
    have rw3 := rw0.kp k3
    have k03 := Kp.trans k02 k3
    obtain ⟨many, em, m2, m3⟩ : ∃ many : Nat, (xs0.length : Int) + m = many ∧ rs0.length ≤ many ∧ many ≤ 100 := ⟨xs0.length + m.toNat, by omega, by omega, by omega⟩
    walk_at "gs"
    refine i_elts (SqL.of hF3) (fun D i H' => Kp [] H3 H' ∧ ∃ ys, H' D = some (.lst ys) ∧ ys.length ≤ i) ?_ ?_ ?_ ?_
    · intro D fD
      exact ⟨Kp.new fD, [], upd_same, Nat.le_refl _⟩
    · rintro D j H' fD _ ⟨kk, _⟩
      exact SqL.of (kk.at_ _ _ hF3 not_nil)
    · rintro D j x H4 fD hx ⟨k4, ys, hD, ly⟩
      have hj := (List.getElem?_eq_some_iff.mp hx).1
      obtain ⟨r, hr⟩ : ∃ r, rs0[j]? = some r := ⟨_, List.getElem?_eq_getElem (by omega)⟩
      obtain ⟨t, rfl, ht⟩ := (rw3.kp k4).2 j x r hx hr
      have at0 : atI (V.str r.1 :: r.2.map V.int) 0 = some (.str r.1) := at_zero
      walk_at "gs"
      refine i_bool2 (fun cx => ?_) (fun cx => ?_)
      · walk_at "gs"
        refine ⟨ys, hD, small_sz (by omega), Kp.upd k4 fD, _, upd_same, ?_⟩
        rw [List.length_append, List.length_singleton]
        omega
      · exact ⟨k4, ys, hD, by omega⟩
    rintro D H4 fD ⟨k4, ys, hD, ly⟩
    have hF4 := k4.at_ _ _ hF3 not_nil
    have rw4 := rw3.kp k4
    have hp4 := hp3.kp k4 not_nil
    have k04 := Kp.trans k03 k4.wide
    walk_at "gs"
    rw [em]
    obtain ⟨rf, erf⟩ : ∃ rf : Int, rf = ys.length := ⟨_, rfl⟩
    rw [← erf]
    have pr0 := pre_rows pre (many := many) (by omega) (by omega) hn.2
    refine i_while (fun mm σ H' => ∃ (o6 o7 : Option V) (xs : List V) (rs : List (Str × List Int)), mm = many - rs.length ∧ σ = [some (.ref p), some (.int high), some (.int n), some (.ref F), some (.int many), some (.int rf), o6, o7] ∧ PotAt H' p ∧ Kp [p] H H' ∧ H' F = some (.lst xs) ∧ RwAt H' xs rs ∧ (∀ r ∈ rs, Row n many (rowD r) ∧ LowR r) ∧ rs0.length ≤ rs.length ∧ rs.length ≤ many ∧ rs.take rs0.length = rs0 ∧ ∀ (i : Nat) r, rs0.length ≤ i → rs[i]? = some r → Onw i r) (many - rs0.length) ?_ ?_
    · exact ⟨none, none, xs0, rs0, rfl, rfl, hp4, k04, hF4, rw4, pr0, Nat.le_refl _, m2, List.take_length, fun i r hi hr => by
        have := (List.getElem?_eq_some_iff.mp hr).1
        omega⟩
    · rintro mm σ H' ⟨o6, o7, xs, rs, rfl, rfl, hp', k', hF', rw', pr, l1, l2, tk, on⟩
      have lx := rw'.1
      walk_at "gs"
      refine i_dec (fun c => ?_) (fun c => ?_)
      · refine i_loop ?_
        walk_at "gs"
        refine i_elts (SqL.of hF') (fun D i H2 => Kp [] H' H2 ∧ ∃ ys, H2 D = some (.lst ys) ∧ ys.length ≤ i) ?_ ?_ ?_ ?_
        · intro D fD
          exact ⟨Kp.new fD, [], upd_same, Nat.le_refl _⟩
        · rintro D j H2 fD _ ⟨kk, _⟩
          exact SqL.of (kk.at_ _ _ hF' not_nil)
        · rintro D j x H2 fD hx ⟨k4, ys, hD, ly⟩
          have hj := (List.getElem?_eq_some_iff.mp hx).1
          obtain ⟨r, hr⟩ : ∃ r, rs[j]? = some r := ⟨_, List.getElem?_eq_getElem (by omega)⟩
          obtain ⟨t, rfl, ht⟩ := (rw'.kp k4).2 j x r hx hr
          have at0 : atI (V.str r.1 :: r.2.map V.int) 0 = some (.str r.1) := at_zero
          walk_at "gs"
          refine i_bool2 (fun cx => ?_) (fun cx => ?_)
          · walk_at "gs"
            refine ⟨ys, hD, small_sz (by omega), Kp.upd k4 fD, _, upd_same, ?_⟩
            rw [List.length_append, List.length_singleton]
            omega
          · exact ⟨k4, ys, hD, by omega⟩
        rintro D2 H5 fD2 ⟨k5, ys2, hD2, ly2⟩
        have hF5 := k5.at_ _ _ hF' not_nil
        have hp5 := hp'.kp k5 not_nil
        have k05 := Kp.trans k' k5.wide
        walk_at "gs"
        refine ⟨p, n, xs.length, many, _, rfl, hp5, hn, ⟨by omega, by omega, by omega⟩, fun t r H6 ht row lo ow hp6 k6 => ?_⟩
        have hF6 := k6.at_ _ _ hF5 (not_one nFp)
        walk_at "gs"
        have kA : Kp [F] H6 (upd H6 F (.lst (xs ++ [.ref t]))) := kp_set hF6 (fun z => z)
        have kall : Kp [p] H (upd H6 F (.lst (xs ++ [.ref t]))) := Kp.upd (Kp.trans k05 k6) (k1.free fF)
        refine ⟨many - (rs ++ [r]).length, by rw [List.length_append, List.length_singleton]; omega, _, _, xs ++ [.ref t], rs ++ [r], rfl, rfl, hp6.kp kA (not_one (Ne.symm nFp)), kall, upd_same, (((rw'.kp k5).kp k6).snoc ht).kp kA, fun q hq => ?_, by rw [List.length_append]; omega, by rw [List.length_append, List.length_singleton]; omega, ?_, fun i q hi hq => ?_⟩
        · rcases List.mem_append.mp hq with hq | hq
          · exact pr q hq
          · rw [List.mem_singleton.mp hq]
            exact ⟨row, lo⟩
        · rw [List.take_append_of_le_length l1, tk]
        · by_cases ci : i < rs.length
          · rw [List.getElem?_append_left ci] at hq
            exact on i q hi hq
          · have lt := (List.getElem?_eq_some_iff.mp hq).1
            rw [List.length_append, List.length_singleton] at lt
            have e : i = rs.length := by omega
            subst e
            rw [List.getElem?_append_right (Nat.le_refl _), Nat.sub_self] at hq
            cases hq
            rw [← lx]
            exact ow
      · walk_at "gs"
        refine i_new fun t ft => ?_
        have kt : Kp [] H' (upd H' t (.tup [.int n, .ref F])) := Kp.new ft
        have e : rs.length = many := by omega
        exact k t F n xs rs _ (SqT.of upd_same) (k1.free fF) (kt.at_ _ _ hF' not_nil) (rw'.kp kt) ⟨hn, by rw [e]; exact pr, ⟨rs0.length, l1, by rw [tk]; exact pre, on⟩, by omega⟩ (hp'.kp kt not_nil) (Kp.trans k' kt.wide)

/-! ### a plan comes to rest -/
theorem setC_eq {cs : List Int} {c v : Int} (h : inC cs c) : setC cs c v = cs.set c.toNat v := by
  have h1 := h.1
  have h2 := h.2
  rw [List.set_eq_take_append_cons_drop, if_pos (by omega)]
  unfold setC laid
  rw [show (c + 1).toNat = c.toNat + 1 by omega, List.append_assoc]
  rfl
theorem get_set {cs : List Int} {c v d : Int} (hc : inC cs c) (hd : inC cs d) : getC (setC cs c v) d = if d = c then v else getC cs d := by
  have h1 := hc.1
  have h2 := hc.2
  have h3 := hd.1
  have h4 := hd.2
  rw [setC_eq hc]
  unfold getC
  rw [List.getD_eq_getElem?_getD, List.getD_eq_getElem?_getD, List.getElem?_set]
  by_cases e : d = c
  · rw [if_pos (by rw [e]), if_pos e, if_pos (by omega)]
    rfl
  · rw [if_neg (by omega), if_neg e]
section
variable {rs : List (Str × List Int)} {s : LS}
theorem stepS_row {r : Str × List Int} (er : rowAt rs s = some r) : stepS rs s = if r.1 = "less" ∨ r.1 = "same" then comeTo rs (if (getC s.cs (r.2.getD 0 0) < getC s.cs (r.2.getD 1 0) ∧ r.1 = "less") ∨ (getC s.cs (r.2.getD 0 0) = getC s.cs (r.2.getD 1 0) ∧ r.1 = "same") then (r.2.getD 2 0).toNat else s.place.toNat + 1) s
    else if r.1 = "fail" then failS s
    else if r.1 = "from" ∨ r.1 = "into" then (match leadS r.1 r.2 s with
      | none => failS s
      | some s' => comeTo rs (s.place.toNat + 1) s')
    else comeTo rs (s.place.toNat + 1) (changeS r.1 r.2 s) := by
  unfold stepS
  rw [er]
  all_goals rfl
theorem step_put {c v : Int} (er : rowAt rs s = some (Str.ofString "put", [c, v])) : stepS rs s = comeTo rs (s.place.toNat + 1) { s with cs := setC s.cs c v } := by
  rw [stepS_row er, if_neg (by show ¬ (Str.ofString "put" = Str.ofString "less" ∨ Str.ofString "put" = Str.ofString "same"); decide +kernel), if_neg (by show ¬ (Str.ofString "put" = Str.ofString "fail"); decide +kernel), if_neg (by show ¬ (Str.ofString "put" = Str.ofString "from" ∨ Str.ofString "put" = Str.ofString "into"); decide +kernel)]
  rfl
theorem step_add {c d : Int} (er : rowAt rs s = some (Str.ofString "add", [c, d])) : stepS rs s = comeTo rs (s.place.toNat + 1) { s with cs := setC s.cs c (getC s.cs c + getC s.cs d) } := by
  rw [stepS_row er, if_neg (by show ¬ (Str.ofString "add" = Str.ofString "less" ∨ Str.ofString "add" = Str.ofString "same"); decide +kernel), if_neg (by show ¬ (Str.ofString "add" = Str.ofString "fail"); decide +kernel), if_neg (by show ¬ (Str.ofString "add" = Str.ofString "from" ∨ Str.ofString "add" = Str.ofString "into"); decide +kernel)]
  unfold changeS
  rw [if_neg (by show ¬ (Str.ofString "add" = Str.ofString "put"); decide +kernel), if_neg (by show ¬ (Str.ofString "add" = Str.ofString "move"); decide +kernel)]
  rfl
theorem step_less {c d g : Int} (er : rowAt rs s = some (Str.ofString "less", [c, d, g])) : stepS rs s = comeTo rs (if getC s.cs c < getC s.cs d then g.toNat else s.place.toNat + 1) s := by
  rw [stepS_row er, if_pos (.inl rfl)]
  congr 1
  by_cases h : getC s.cs c < getC s.cs d
  · rw [if_pos (.inl ⟨h, rfl⟩), if_pos h]
    rfl
  · rw [if_neg h, if_neg]
    rintro (⟨a, _⟩ | ⟨_, b⟩)
    · exact h a
    · have : ¬ (Str.ofString "less" = Str.ofString "same") := by decide +kernel
      exact this b
/-- where it stands, and how many rows may yet be done -/
def Wh (rs : List (Str × List Int)) (L : Nat) (k : Int) (i : Nat) (cs : List Int) (m : Int) : Prop :=
  (L ≤ i ∧ (rs.length : Int) - i ≤ m) ∨
  (L ≠ 0 ∧ i = 0 ∧ (rs.length : Int) + 16 ≤ m) ∨
  (L ≠ 0 ∧ i = 1 ∧ getC cs 0 = 0 ∧ (rs.length : Int) + 15 ≤ m) ∨
  (L ≠ 0 ∧ i = 2 ∧ getC cs 0 = 0 ∧ getC cs 1 = 1 ∧ (rs.length : Int) + 14 ≤ m) ∨
  (L ≠ 0 ∧ i = 3 ∧ getC cs 1 = 1 ∧ getC cs 2 = k ∧ getC cs 0 < k ∧ (rs.length : Int) - 3 + 4 * (k - getC cs 0) ≤ m) ∨
  (3 < i ∧ i < L ∧ getC cs 1 = 1 ∧ getC cs 2 = k ∧ getC cs 0 ≤ k ∧ (rs.length : Int) - i + 3 + 4 * (k - getC cs 0) ≤ m)
def Pt (rs : List (Str × List Int)) (n : Int) (L : Nat) (k : Int) (s : LS) (m : Int) : Prop := s.cs.length = n.toNat ∧ (s.rest = "" → ∃ i : Nat, s.place = i ∧ i < rs.length ∧ Wh rs L k i s.cs m)
theorem Pt.come {n : Int} {L : Nat} {k m : Int} {pl : Nat} (l : s.cs.length = n.toNat) (w : Wh rs L k pl s.cs m) : Pt rs n L k (comeTo rs pl s) m := by
  obtain ⟨c, t⟩ := come_data (rs := rs) (s := s) (pl := pl)
  refine ⟨by rw [c]; exact l, fun r => ?_⟩
  rw [c]
  unfold comeTo at r ⊢
  have nd : ¬ (Str.ofString "done" = Str.ofString "") := by decide +kernel
  split at r
  · exact absurd r nd
  · rename_i q e
    split at r
    · exact absurd r nd
    · rename_i nq
      simp only [if_neg nq]
      exact ⟨pl, rfl, (List.getElem?_eq_some_iff.mp e).1, w⟩
theorem Pt.fail {n : Int} {L : Nat} {k m : Int} (l : s.cs.length = n.toNat) : Pt rs n L k (failS s) m := ⟨l, fun r => by
  have nd : ¬ (Str.ofString "failed" = Str.ofString "") := by decide +kernel
  exact absurd r nd⟩
end
section
variable {rs : List (Str × List Int)} {s : LS} {n : Int} {j : Nat}
theorem next_len (h : s.cs.length = n.toNat) (hn : (n.toNat : Int) = n) {q : Str × List Int} (er : rowAt rs s = some q) (okr : rowOk (rowD q) n rs.length = true) {w : Str} {ns : List Int} (e : q = (w, ns)) : (changeS w ns s).cs.length = n.toNat ∧ ∀ s', (w = "from" ∨ w = "into") → leadS w ns s = some s' → s'.cs.length = n.toNat := by
  subst e
  have le : (s.cs.length : Int) = n := by rw [h, hn]
  rw [← le] at okr
  refine ⟨?_, fun s' hw el => ((lead_keep hw okr el).1).trans h⟩
  unfold changeS
  by_cases c1 : w = "put"
  · rw [if_pos c1]
    subst c1
    obtain ⟨c, v, rfl, hc⟩ := inv_cn (by decide +kernel) okr
    exact (len_setC hc).trans h
  rw [if_neg c1]
  by_cases c2 : w = "move"
  · rw [if_pos c2]
    subst c2
    obtain ⟨c, d, rfl, hc, hd⟩ := inv_cc (by decide +kernel) okr
    exact (len_setC hc).trans h
  rw [if_neg c2]
  by_cases c3 : w = "add"
  · rw [if_pos c3]
    subst c3
    obtain ⟨c, d, rfl, hc, hd⟩ := inv_cc (by decide +kernel) okr
    exact (len_setC hc).trans h
  rw [if_neg c3]
  by_cases c4 : w = "fill"
  · rw [if_pos c4]
    subst c4
    obtain ⟨b, e, c, rfl, hb, be, he, hc⟩ := inv_bec okr
    exact (len_fillC ⟨hb, be, he⟩).trans h
  rw [if_neg c4]
  split <;> exact h
/-- behind the round: on -/
theorem Pt.on {L : Nat} {k m : Int} {i : Nat} {q : Str × List Int} {zs : List Nat} (l : s.cs.length = n.toNat) (hn : (n.toNat : Int) = n) (ei : s.place = i) (er : rowAt rs s = some q) (okr : rowOk (rowD q) n rs.length = true) (hi : L ≤ i) (li : i < rs.length) (hm : (rs.length : Int) - i ≤ m) (on : Onw i q) : Pt rs n L k (nextS rs s zs) (m - 1) := by
  have go : ∀ (pl : Nat) (s' : LS), i < pl → s'.cs.length = n.toNat → Pt rs n L k (comeTo rs pl s') (m - 1) := fun pl s' h1 h2 => Pt.come h2 (.inl ⟨by omega, by omega⟩)
  have e1 : s.place.toNat + 1 = i + 1 := by rw [ei, Int.toNat_natCast]
  unfold nextS
  split
  · rename_i af
    unfold atFork at af
    rw [er] at af
    have wf : q.1 = "fork" := of_decide_eq_true af
    split
    · unfold youngS
      rw [er]
      exact go _ _ (by have := on.2 wf; omega) l
    · unfold elderS
      exact go _ _ (by omega) l
  · rw [stepS_row er]
    split
    · rename_i w
      have := on.1 w
      split
      · exact go _ _ (by omega) l
      · exact go _ _ (by omega) l
    split
    · exact Pt.fail l
    obtain ⟨a, b⟩ := next_len (s := s) l hn er okr (w := q.1) (ns := q.2) rfl
    split
    · rename_i w
      split
      · exact Pt.fail l
      · rename_i s' e
        exact go _ _ (by omega) (b s' w e)
    · exact go _ _ (by omega) a
theorem next_step {zs : List Nat} {q : Str × List Int} (er : rowAt rs s = some q) (ne : q.1 ≠ "fork") : nextS rs s zs = stepS rs s := by
  unfold nextS
  rw [if_neg]
  unfold atFork
  rw [er]
  exact fun h => ne (of_decide_eq_true h)
theorem next_fork {zs : List Nat} {g : Int} {i : Nat} (er : rowAt rs s = some (Str.ofString "fork", [g])) (ei : s.place = i) : nextS rs s zs = if zs.headD 0 = 121 then comeTo rs g.toNat { s with rest := "" } else comeTo rs (i + 1) s := by
  have af : atFork rs s = true := by
    unfold atFork
    rw [er]
    exact decide_eq_true rfl
  unfold nextS youngS elderS
  rw [if_pos af, er, ei, Int.toNat_natCast]
  rfl
theorem Pt.next {L : Nat} {k m : Int} {zs : List Nat} {f : Option Int} (h : Pt rs n L k s m) (hn : (n.toNat : Int) = n) (ok : RsOk rs n) (r : s.rest = "") (hp : rs.take L = [] ∨ (3 ≤ n ∧ (1 ≤ k ∧ k ≤ 4) ∧ (f = none ∨ f = some 5 ∨ f = some 6) ∧ rs.take L = loopR k f)) (lL : L ≤ rs.length)
    (on : ∀ (i : Nat) q, L ≤ i → rs[i]? = some q → Onw i q) : Pt rs n L k (nextS rs s zs) (m - 1) := by
  obtain ⟨l, pl⟩ := h
  obtain ⟨i, ei, hi, wh⟩ := pl r
  obtain ⟨q, hq⟩ : ∃ q, rs[i]? = some q := ⟨_, List.getElem?_eq_getElem hi⟩
  have er : rowAt rs s = some q := by
    unfold rowAt
    rw [if_neg (by rw [ei]; omega), ei, Int.toNat_natCast, hq]
  obtain ⟨_, _, okr⟩ := ok q (List.mem_of_getElem? hq)
  have e1 : s.place.toNat = i := by rw [ei, Int.toNat_natCast]
  by_cases Li : L ≤ i
  · refine Pt.on l hn ei er okr Li hi ?_ (on i q Li hq)
    rcases wh with ⟨_, a⟩ | ⟨a, b, _⟩ | ⟨a, b, _⟩ | ⟨a, b, _⟩ | ⟨a, b, c, d, e, g⟩ | ⟨_, b, _⟩
    · exact a
    · omega
    · omega
    · omega
    · omega
    · omega
  have hL : rs.take L ≠ [] := by
    intro e
    rw [List.take_eq_nil_iff] at e
    rcases e with e | e
    · omega
    · rw [e] at hi
      cases hi
  obtain ⟨n3, ⟨k1, k4⟩, hf, tk⟩ := hp.resolve_left hL
  have lt : L = (loopR k f).length := by
    rw [← tk, List.length_take]
    omega
  have hq2 : (loopR k f)[i]? = some q := by
    rw [← tk, List.getElem?_take_of_lt (by omega)]
    exact hq
  have c0 : inC s.cs 0 := ⟨by omega, by omega⟩
  have c1 : inC s.cs 1 := ⟨by omega, by omega⟩
  have c2 : inC s.cs 2 := ⟨by omega, by omega⟩
  have L5 : L = 5 ∨ L = 6 := by
    rcases hf with rfl | rfl | rfl
    · exact .inl lt
    · exact .inr lt
    · exact .inr lt
  have put : ∀ c v : Int, q = (Str.ofString "put", [c, v]) → inC s.cs c → Wh rs L k (i + 1) (setC s.cs c v) (m - 1) → Pt rs n L k (nextS rs s zs) (m - 1) := fun c v e hc w => by
    rw [next_step er (by rw [e]; show ¬ (Str.ofString "put" = Str.ofString "fork"); decide +kernel), step_put (by rw [er, e]), e1]
    exact Pt.come ((len_setC hc).trans l) w
  have row0 : i = 0 → q = (Str.ofString "put", [0, 0]) := fun e => by
    subst e
    rcases hf with rfl | rfl | rfl <;> exact (Option.some.inj hq2).symm
  have row1 : i = 1 → q = (Str.ofString "put", [1, 1]) := fun e => by
    subst e
    rcases hf with rfl | rfl | rfl <;> exact (Option.some.inj hq2).symm
  have row2 : i = 2 → q = (Str.ofString "put", [2, k]) := fun e => by
    subst e
    rcases hf with rfl | rfl | rfl <;> exact (Option.some.inj hq2).symm
  have row3 : i = 3 → q = (Str.ofString "add", [0, 1]) := fun e => by
    subst e
    rcases hf with rfl | rfl | rfl <;> exact (Option.some.inj hq2).symm
  have rowL : i + 1 = L → q = (Str.ofString "less", [0, 2, 3]) := fun e => by
    rcases hf with rfl | rfl | rfl
    · have e2 : i = 4 := by simp only [loopR, List.length_cons, List.length_nil] at lt; omega
      subst e2
      exact (Option.some.inj hq2).symm
    · have e2 : i = 5 := by simp only [loopR, List.length_cons, List.length_nil] at lt; omega
      subst e2
      exact (Option.some.inj hq2).symm
    · have e2 : i = 5 := by simp only [loopR, List.length_cons, List.length_nil] at lt; omega
      subst e2
      exact (Option.some.inj hq2).symm
  have row4 : i = 4 → L = 6 → ∃ g, q = (Str.ofString "fork", [g]) ∧ (g = 5 ∨ g = 6) := fun e e6 => by
    subst e
    rcases hf with rfl | rfl | rfl
    · simp only [loopR, List.length_cons, List.length_nil] at lt
      omega
    · exact ⟨5, (Option.some.inj hq2).symm, .inl rfl⟩
    · exact ⟨6, (Option.some.inj hq2).symm, .inr rfl⟩
  rcases wh with ⟨a, _⟩ | ⟨_, rfl, a⟩ | ⟨_, rfl, g0, a⟩ | ⟨_, rfl, g0, g1, a⟩ | ⟨_, rfl, g1, g2, g0, a⟩ | ⟨i3, iL, g1, g2, g0, a⟩
  · exact absurd a Li
  · refine put 0 0 (row0 rfl) c0 (.inr (.inr (.inl ⟨by omega, rfl, ?_, by omega⟩)))
    rw [get_set c0 c0, if_pos rfl]
  · refine put 1 1 (row1 rfl) c1 (.inr (.inr (.inr (.inl ⟨by omega, rfl, ?_, ?_, by omega⟩))))
    · rw [get_set c1 c0, if_neg (by decide)]
      exact g0
    · rw [get_set c1 c1, if_pos rfl]
  · have z0 : getC (setC s.cs 2 k) 0 = 0 := by
      rw [get_set c2 c0, if_neg (by decide)]
      exact g0
    refine put 2 k (row2 rfl) c2 (.inr (.inr (.inr (.inr (.inl ⟨by omega, rfl, ?_, ?_, ?_, ?_⟩)))))
    · rw [get_set c2 c1, if_neg (by decide)]
      exact g1
    · rw [get_set c2 c2, if_pos rfl]
    · rw [z0]
      omega
    · rw [z0]
      omega
  · have e := row3 rfl
    rw [next_step er (by rw [e]; show ¬ (Str.ofString "add" = Str.ofString "fork"); decide +kernel), step_add (by rw [er, e]), e1]
    refine Pt.come ((len_setC c0).trans l) (.inr (.inr (.inr (.inr (.inr ⟨by omega, by omega, ?_, ?_, ?_, ?_⟩)))))
    · show getC (setC s.cs 0 _) 1 = 1
      rw [get_set c0 c1, if_neg (by decide)]
      exact g1
    · show getC (setC s.cs 0 _) 2 = k
      rw [get_set c0 c2, if_neg (by decide)]
      exact g2
    · show getC (setC s.cs 0 _) 0 ≤ k
      rw [get_set c0 c0, if_pos rfl]
      omega
    · show _ + 4 * (k - getC (setC s.cs 0 _) 0) ≤ _
      rw [get_set c0 c0, if_pos rfl]
      omega
  · by_cases e4 : i + 1 = L
    · have e := rowL e4
      rw [next_step er (by rw [e]; show ¬ (Str.ofString "less" = Str.ofString "fork"); decide +kernel), step_less (by rw [er, e]), e1]
      split
      · rename_i lt2
        exact Pt.come l (.inr (.inr (.inr (.inr (.inl ⟨by omega, rfl, g1, g2, by rw [g2] at lt2; exact lt2, by omega⟩)))))
      · exact Pt.come l (.inl ⟨by omega, by omega⟩)
    · obtain ⟨g, e, hg⟩ := row4 (by omega) (by omega)
      rw [next_fork (by rw [er, e]) ei]
      obtain ⟨C0, eC0⟩ : ∃ C0, C0 = getC s.cs 0 := ⟨_, rfl⟩
      have fx : 5 < L ∧ (rs.length : Int) - 5 + 3 + 4 * (k - C0) ≤ m - 1 ∧ (rs.length : Int) - 6 ≤ m - 1 ∧ L ≤ 6 ∧ i + 1 = 5 := by
        rw [← eC0] at a g0
        clear e1 er ei row0 row1 row2 row3 rowL row4 put eC0 lt hq2 hq pl okr
        omega
      have w5 : Wh rs L k 5 s.cs (m - 1) := .inr (.inr (.inr (.inr (.inr ⟨by decide, fx.1, g1, g2, g0, by rw [← eC0]; exact fx.2.1⟩))))
      split
      · refine Pt.come (s := { s with rest := "" }) l ?_
        rcases hg with rfl | rfl
        · exact w5
        · exact .inl ⟨fx.2.2.2.1, fx.2.2.1⟩
      · rw [fx.2.2.2.2]
        exact Pt.come l w5
theorem goS_ends {L : Nat} {k : Int} {f : Option Int} (hn : (n.toNat : Int) = n) (ok : RsOk rs n) (hp : rs.take L = [] ∨ (3 ≤ n ∧ (1 ≤ k ∧ k ≤ 4) ∧ (f = none ∨ f = some 5 ∨ f = some 6) ∧ rs.take L = loopR k f)) (lL : L ≤ rs.length)
    (on : ∀ (i : Nat) q, L ≤ i → rs[i]? = some q → Onw i q) : ∀ (c : Nat) {s : LS} {zs : List Nat} {m : Int}, Pt rs n L k s m → m ≤ c → ∃ r, goS rs c s zs = some r := by
  intro c
  induction c with
  | zero =>
    intro s zs m p hm
    cases hg : goes rs s zs with
    | false => exact ⟨_, goS_end hg⟩
    | true =>
      have r : s.rest = "" := by
        unfold goes at hg
        exact of_decide_eq_true (Bool.and_eq_true_iff.mp hg).1
      obtain ⟨_, pl⟩ := p
      obtain ⟨i, ei, hi, wh⟩ := pl r
      rcases wh with ⟨_, a⟩ | ⟨_, _, a⟩ | ⟨_, _, _, a⟩ | ⟨_, _, _, _, a⟩ | ⟨_, _, _, _, b, a⟩ | ⟨_, _, _, _, b, a⟩ <;> omega
  | succ c ih =>
    intro s zs m p hm
    cases hg : goes rs s zs with
    | false => exact ⟨_, goS_end hg⟩
    | true =>
      have r : s.rest = "" := by
        unfold goes at hg
        exact of_decide_eq_true (Bool.and_eq_true_iff.mp hg).1
      obtain ⟨x, hx⟩ := ih (p.next hn ok r hp lL on (zs := zs)) (zs := nextZ rs s zs) (by omega)
      exact ⟨x, by rw [goS, if_pos hg]; exact hx⟩
end
theorem Plan.rsOk {n : Int} {rs : List (Str × List Int)} (p : Plan n rs) : RsOk rs n ∧ SmallR rs := by
  refine ⟨fun r h => ?_, fun r h v m => ?_⟩
  · obtain ⟨a, b⟩ := p.rows r h
    obtain ⟨_, es, _, _, _, ok, _⟩ := id a
    refine ⟨(a.fn.2.2.2 _ rfl).1, fun d => ?_, ok⟩
    obtain ⟨w, ns⟩ := r
    have d : w = "done" := d
    subst d
    exact inv_0 (by decide +kernel) ok
  · have := (p.rows r h).2 v m
    unfold In_ topN
    omega
theorem Plan.ends {n : Int} {rs : List (Str × List Int)} (p : Plan n rs) (zs : List Nat) : ∃ r, goS rs 1000 (beginS rs n) zs = some r := by
  obtain ⟨L, lL, pre, on⟩ := p.pre
  have hn : (n.toNat : Int) = n := Int.toNat_of_nonneg (by have := p.wide.1; omega)
  have few := p.few
  have P : ∀ k, Pt rs n L k (beginS rs n) 200 := fun k => by
    refine Pt.come (s := ⟨-1, "", List.replicate n.toNat 0, []⟩) List.length_replicate ?_
    by_cases z : L = 0
    · exact .inl ⟨by omega, by omega⟩
    · exact .inr (.inl ⟨z, rfl, by omega⟩)
  rcases pre with e | ⟨k, f, n3, hk, hf, e⟩
  · exact goS_ends (k := 0) (f := none) hn p.rsOk.1 (.inl e) lL on 1000 (P 0) (by omega)
  · exact goS_ends hn p.rsOk.1 (.inr ⟨n3, hk, hf, e⟩) lL on 1000 (P k) (by omega)

/-! ### the law's own dict of one that goes -/
theorem fresh_at {H : Hp} {p : Addr} {o : HO} (_ : Fr H p) : upd H p o p = some o := upd_same
section
variable {K : PySem.W.Frag} {σ : L2.St} {H : Hp} {Q : VK} {a : Addr} {kvs : List (Key × V)} {z : Str} {v : V} {td ty : TE} {P : Hp → Prop}
def DG (x y : V) (H : Hp) (Q : VK) : Prop := ∃ a v, x = .ref a ∧ DGet H a y (some v) ∧ Q v H
theorem i_dget (h : td σ H fun x H1 => ty σ H1 fun y H2 => DG x y H2 Q) : tDGet td ty σ H Q := h
theorem i_dgS (hd : H a = some (.dK kvs)) (hv : valV kvs (.inr z) = some v) (q : Q v H) : DG (.ref a) (.str z) H Q :=
  ⟨a, v, rfl, by
    have e := DGet.k (k := .inr z) hd
    rw [hv] at e
    exact e, q⟩
theorem i_setS (hd : H a = some (.dK kvs)) (hl : kvs.length ≤ 1000000) (q : P (upd H a (.dK (putK kvs (.inr z) v)))) : rSetD (.ref a) (.str z) v H P :=
  ⟨a, _, rfl, DPut.k (k := .inr z) hd (small_sz hl), q⟩
def Disp4 (p : Addr) (Q : VK) (v1 v2 v3 v4 : V) (H : Hp) : Prop := H p = some (.dK []) ∧ ∃ kvs : List (Key × V), [(V.str "path", v1), (V.str "row", v2), (V.str "told", v3), (V.str "rest", v4)] = kvs.map (fun kv => (kV kv.1, kv.2)) ∧ kvs.length ≤ 15 ∧ Q (.ref p) (upd H p (.dK (mergeK [] kvs)))
theorem i_disp4 {t1 t2 t3 t4 : TE} (q : ∀ p, Fr H p → t1 σ (upd H p (.dK [])) fun v1 H1 => t2 σ H1 fun v2 H2 => t3 σ H2 fun v3 H3 => t4 σ H3 fun v4 H4 => Disp4 p Q v1 v2 v3 v4 H4) :
    tDisp [(tC (.str "path"), t1), (tC (.str "row"), t2), (tC (.str "told"), t3), (tC (.str "rest"), t4)] σ H Q := fun p hp => q p ⟨hp⟩
end
theorem i_popV {H : Hp} {Q : VK} {l : Addr} {xs : List V} {y : V} (hl : H l = some (.lst (xs ++ [y]))) (q : Q y (upd H l (.lst xs))) : rPop (.ref l) [] H Q := by
  refine ⟨l, _, y, rfl, rfl, hl, ?_, ?_⟩
  · rw [List.length_append, List.length_singleton, Nat.add_sub_cancel]
    exact List.getElem?_concat_length
  · rw [List.dropLast_concat]
    exact q
/-- its dict, with a place or without one -/
def oneD (pt : Str) (Rw Td : Addr) (rest : Str) (pl : Option Int) : List (Key × V) := [(.inr "path", .str pt), (.inr "row", .ref Rw), (.inr "told", .ref Td), (.inr "rest", .str rest)] ++ (pl.map fun n => ((.inr "place" : Key), V.int n)).toList
theorem i_disp4e {p : Addr} {Q : VK} {pt rest : Str} {Rw Td : Addr} {H : Hp} (h : H p = some (.dK [])) (q : Q (.ref p) (upd H p (.dK (oneD pt Rw Td rest none)))) : Disp4 p Q (.str pt) (.ref Rw) (.ref Td) (.str rest) H := ⟨h, oneD pt Rw Td rest none, rfl, by show 4 ≤ 15; decide, q⟩
section
variable {pt pt' rest rest' : Str} {Rw Rw' Td : Addr} {pl : Option Int} {n : Int}
theorem put_place : putK (oneD pt Rw Td rest pl) (.inr "place") (.int n) = oneD pt Rw Td rest (some n) := by
  cases pl with
  | none => rfl
  | some m => rfl
theorem put_rest : putK (oneD pt Rw Td rest pl) (.inr "rest") (.str rest') = oneD pt Rw Td rest' pl := by
  cases pl with
  | none => rfl
  | some m => rfl
theorem put_path : putK (oneD pt Rw Td rest pl) (.inr "path") (.str pt') = oneD pt' Rw Td rest pl := by
  cases pl with
  | none => rfl
  | some m => rfl
theorem put_row : putK (oneD pt Rw Td rest pl) (.inr "row") (.ref Rw') = oneD pt Rw' Td rest pl := by
  cases pl with
  | none => rfl
  | some m => rfl
theorem val_path : valV (oneD pt Rw Td rest pl) (.inr "path") = some (.str pt) := rfl
theorem val_row : valV (oneD pt Rw Td rest pl) (.inr "row") = some (.ref Rw) := rfl
theorem val_told : valV (oneD pt Rw Td rest pl) (.inr "told") = some (.ref Td) := rfl
theorem val_rest : valV (oneD pt Rw Td rest pl) (.inr "rest") = some (.str rest) := rfl
theorem val_place : valV (oneD pt Rw Td rest (some n)) (.inr "place") = some (.int n) := rfl
theorem oneD_len : (oneD pt Rw Td rest pl).length ≤ 1000000 := by
  cases pl with
  | none => show 4 ≤ 1000000; decide
  | some m => show 5 ≤ 1000000; decide
end
--%%M
local macro_rules | `(tactic| walk_at "g_own") => `(tactic| first
  | (with_reducible refine i_dget ?_)
  | (with_reducible refine i_disp4 fun _ _ => ?_))
--%%E
/-- one that goes: its dict, its row of runs, what it told -/
structure OneAt (K : PySem.W.Frag) (H : Hp) (d Rw Td : Addr) (pt : Str) (po : Option Int) (s : LS) : Prop where
  hd : H d = some (.dK (oneD pt Rw Td s.rest po))
  row : LD K H Rw ((rle s.cs).map d2)
  told : H Td = some (.lst (s.told.map V.int))
  ne : Rw ≠ Td
section
variable {K : PySem.W.Frag} {H H' : Hp} {d Rw Td : Addr} {pt : Str} {po : Option Int} {s : LS}
theorem OneAt.kp {ws : List Addr} (h : OneAt K H d Rw Td pt po s) (k : Kp ws H H') (n1 : d ∉ ws) (n2 : Rw ∉ ws) (n3 : Td ∉ ws) : OneAt K H' d Rw Td pt po s :=
  ⟨k.at_ _ _ h.hd n1, h.row.kp k (imms_d2 _) n2, k.at_ _ _ h.told n3, h.ne⟩
theorem OneAt.kp0 (h : OneAt K H d Rw Td pt po s) (k : Kp [] H H') : OneAt K H' d Rw Td pt po s := h.kp k not_nil not_nil not_nil
theorem OneAt.nR (h : OneAt K H d Rw Td pt po s) : Rw ≠ d := fun e => by
  obtain ⟨vs, h1, _⟩ := h.row
  rw [e, h.hd] at h1
  cases h1
theorem OneAt.nT (h : OneAt K H d Rw Td pt po s) : Td ≠ d := fun e => by
  have h1 := h.told
  rw [e, h.hd] at h1
  cases h1
theorem OneAt.set (h : OneAt K H d Rw Td pt po s) {pt' rest : Str} {po' : Option Int} {pl : Int} (k : Kp [d] H H') (e : H' d = some (.dK (oneD pt' Rw Td rest po'))) : OneAt K H' d Rw Td pt' po' { s with rest := rest, place := pl } :=
  ⟨e, h.row.kp k (imms_d2 _) (not_one h.nR), k.at_ _ _ h.told (not_one h.nT), h.ne⟩
end
theorem kp_dK {H : Hp} {a : Addr} {k0 k1 : List (Key × V)} (h : H a = some (.dK k0)) : Kp [a] H (upd H a (.dK k1)) := kp_set h (fun z => z)
def sp_comes (K : PySem.W.Frag) : Sp := fun vs H Q _ => ∃ (F d Rw Td : Addr) (xs : List V) (rs : List (Str × List Int)) (pt : Str) (po : Option Int) (s : LS) (pl : Nat), vs = [.ref F, .ref d, .int pl] ∧ OneAt K H d Rw Td pt po s ∧ H F = some (.lst xs) ∧ RwAt H xs rs ∧ pl ≤ rs.length ∧ rs.length ≤ 1000 ∧ (∀ r ∈ rs, SeqAt.shaped (rowD r) = true) ∧ (∀ r ∈ rs, r.1 = "done" → r.2 = []) ∧
  ∀ H', Kp [d] H H' → OneAt K H' d Rw Td pt (some (pl : Int)) (comeTo rs pl s) → Q .non H'
theorem sc_law_comes : FnScope ["_law_rows", "_law_one", "_law_place"] ["_law_rows", "_law_one", "_law_place"] (defScope s_law_comes) :=
  ⟨rfl, rfl, rfl, by decide +kernel, rfl, by decide +kernel, by decide +kernel⟩
theorem ok_law_comes {P : Program} {w : World} {K : PySem.W.Frag} {mg : Str → Option Value} {base : Heap} (T : Txt w K mg) :
    FnG P w K mg base 1 T.a_law_comes T.d_law_comes ["_law_rows", "_law_one", "_law_place"] (sp_comes K) := by
  refine okD T.F_law_comes sc_law_comes (fun vs H Q E h => ?_) (fun cdv A outer s H vs Q E hr h => ?_)
  · first
      | (obtain ⟨_, rfl, _⟩ := h; rfl)
      | (obtain ⟨_, _, rfl, _⟩ := h; rfl)
      | (obtain ⟨_, _, _, rfl, _⟩ := h; rfl)
      | (obtain ⟨_, _, _, _, rfl, _⟩ := h; rfl)
      | (obtain ⟨_, _, _, _, _, rfl, _⟩ := h; rfl)
      | (obtain ⟨_, _, _, _, _, _, rfl, _⟩ := h; rfl)
      | (obtain ⟨_, _, _, _, _, _, _, rfl, _⟩ := h; rfl)
      | (obtain ⟨_, _, _, _, _, _, _, _, rfl, _⟩ := h; rfl)
      | (obtain ⟨_, _, _, _, _, _, _, _, _, rfl, _⟩ := h; rfl)
      | (obtain ⟨_, _, _, _, _, _, _, _, _, _, rfl, _⟩ := h; rfl)
      | (obtain ⟨_, _, _, _, _, _, _, _, _, _, _, rfl, _⟩ := h; rfl)
      | (obtain ⟨_, _, _, _, _, _, _, _, _, _, _, _, rfl, _⟩ := h; rfl)
      | (obtain ⟨_, _, _, _, _, _, _, _, _, _, _, _, _, rfl, _⟩ := h; rfl)
      | (obtain ⟨_, _, _, _, _, _, _, _, _, _, _, _, _, _, rfl, _⟩ := h; rfl)
      | (obtain ⟨_, _, _, _, _, _, _, _, _, _, _, _, _, _, _, rfl, _⟩ := h; rfl)
      | (obtain ⟨_, _, _, _, _, _, _, _, _, _, _, _, _, _, _, _, rfl, _⟩ := h; rfl)
      | (obtain ⟨_, _, _, _, _, _, _, _, _, _, _, _, _, _, _, _, _, rfl, _⟩ := h; rfl)
      | (obtain ⟨_, _, _, _, _, _, _, _, _, _, _, _, _, _, _, _, _, _, rfl, _⟩ := h; rfl)
      | (obtain ⟨_, _, _, _, _, _, _, _, _, _, _, _, _, _, _, _, _, _, _, rfl, _⟩ := h; rfl)
  · obtain ⟨F, d, Rw, Td, xs, rs, pt, po, s, pl, rfl, O, hF, rw', le, lr, shp, dn, k⟩ := h
    have hd := O.hd
    have lx := rw'.1
    have nF : F ≠ d := fun e => by
      rw [e, hd] at hF
      cases hF
    refine ⟨_, (pss_cons (ps_asg (pv 2) (pg_sub (pv 1) pe_str (set_dict (u1 hr.r.units))))
      (pss_one (ps_if (PW.pt (pw_or (pt_cmpR (k_eq (K := K) rfl hr.r.units) (pv 2) (pe_callB (k_len (K := K) rfl) (by rfl) T.n_len (by decide +kernel) (pa_cons (pv 0) pa_nil)) (nomark _)) (pw_or1 (pt_cmpR (k_eq (K := K) rfl hr.r.units) (pe_ix (k_ix (K := K) rfl) (pv 0) (pv 2) (fun _ _ => rfl)) (pe_tup (pa_cons pe_str pa_nil)) (nomark _))))) (pss_one (ps_asg pe_str (pg_sub (pv 1) pe_str (set_dict (u1 hr.r.units))))) pss_nil))), ?_⟩
    dsimp only [cxOf, st_1, st_2, st_3, st_4, st_5, st_6, List.length_cons, List.length_nil, List.replicate_succ, List.replicate_zero, Nat.reduceAdd, Nat.reduceSub]
    walk_at "gs"
    refine i_setS hd oneD_len ?_
    rw [put_place]
    have kA : Kp [d] H (upd H d (.dK (oneD pt Rw Td s.rest (some pl)))) := kp_dK hd
    have hA : (upd H d (.dK (oneD pt Rw Td s.rest (some pl)))) d = some (.dK (oneD pt Rw Td s.rest (some pl))) := upd_same
    obtain ⟨H1, e1⟩ : ∃ H1, H1 = upd H d (.dK (oneD pt Rw Td s.rest (some pl))) := ⟨_, rfl⟩
    rw [← e1] at kA hA ⊢
    have hF1 := kA.at_ _ _ hF (not_one nF)
    have rw1 := rw'.kp kA
    walk_at "gs"
    refine i_dec (fun c => ?_) (fun c => ?_)
    · have e : comeTo rs pl s = { s with place := -1, rest := "done" } := by
        unfold comeTo
        rw [List.getElem?_eq_none (by omega)]
      walk_at "gs"
      refine i_setS hA oneD_len ?_
      rw [put_rest]
      have kB : Kp [d] H1 (upd H1 d (.dK (oneD pt Rw Td "done" (some pl)))) := kp_dK hA
      exact k _ (Kp.trans kA kB) (by rw [e]; exact O.set (Kp.trans kA kB) upd_same)
    obtain ⟨r, hr⟩ : ∃ r, rs[pl]? = some r := ⟨_, List.getElem?_eq_getElem (by omega)⟩
    have hrm := List.mem_of_getElem? hr
    obtain ⟨x, hx⟩ : ∃ x, xs[pl]? = some x := ⟨_, List.getElem?_eq_getElem (by omega)⟩
    obtain ⟨tr, rfl, htr⟩ := rw1.2 pl x r hx hr
    have hat : atI xs (pl : Int) = some (.ref tr) := atI_nat hx
    walk_at "gs"
    refine i_new fun t ft => ?_
    have kt : Kp [] H1 (upd H1 t (.tup [V.str (Str.ofString "done")])) := Kp.new ft
    have ht : SqT K (upd H1 t (.tup [V.str (Str.ofString "done")])) t [V.str (Str.ofString "done")] := SqT.of upd_same
    obtain ⟨H2, e2⟩ : ∃ H2, H2 = upd H1 t (.tup [V.str (Str.ofString "done")]) := ⟨_, rfl⟩
    rw [← e2] at kt ht ⊢
    have hA2 := kt.at_ _ _ hA not_nil
    have kA2 := Kp.trans kA kt.wide
    have hxd : Dp K H2 (.ref tr) (rowD r) := .tup (SqT.of (kt.fix _ _ htr trivial)) (.cons (.str r.1) (ints_dpa r.2))
    walk_at "gs"
    refine i_eqD (d := rowD r) (e := .tuple [.str "done"]) hxd (.tup ht (.cons (.str _) .nil)) (shp r hrm) (by decide +kernel) ?_
    rw [eqv_done (dn r hrm)]
    walk_at "gs"
    refine i_dec (fun cd => ?_) (fun cd => ?_)
    · have e : comeTo rs pl s = { s with place := -1, rest := "done" } := by
        unfold comeTo
        rw [hr]
        simp only
        rw [if_pos cd]
      walk_at "gs"
      refine i_setS hA2 oneD_len ?_
      rw [put_rest]
      have kB : Kp [d] H2 (upd H2 d (.dK (oneD pt Rw Td "done" (some pl)))) := kp_dK hA2
      exact k _ (Kp.trans kA2 kB) (by rw [e]; exact O.set (Kp.trans kA2 kB) upd_same)
    · have e : comeTo rs pl s = { s with place := pl } := by
        unfold comeTo
        rw [hr]
        simp only
        rw [if_neg cd]
      walk_at "gs"
      exact k _ kA2 (by rw [e]; exact O.set kA2 hA2)
def sp_begun (K : PySem.W.Frag) : Sp := fun vs H Q _ => ∃ (F : Addr) (xs : List V) (rs : List (Str × List Int)) (n : Int), vs = [.int n, .ref F] ∧ H F = some (.lst xs) ∧ RwAt H xs rs ∧ rs.length ≤ 1000 ∧ (∀ r ∈ rs, SeqAt.shaped (rowD r) = true) ∧ (∀ r ∈ rs, r.1 = "done" → r.2 = []) ∧ 1 ≤ n ∧
  ∀ d Rw Td po H', Fr H d → Fr H Td → Kp [] H H' → OneAt K H' d Rw Td "" (some po) (beginS rs n) → ((beginS rs n).rest = "" → po = (beginS rs n).place) → Q (.ref d) H'
theorem sc_law_begun : FnScope ["_law_wide", "_law_rows", "_law_one"] ["_law_wide", "_law_rows"] (defScope s_law_begun) :=
  ⟨rfl, rfl, rfl, by decide +kernel, rfl, by decide +kernel, by decide +kernel⟩
theorem ok_law_begun {P : Program} {w : World} {K : PySem.W.Frag} {mg : Str → Option Value} {base : Heap} (T : Txt w K mg) :
    FnG P w K mg base 2 T.a_law_begun T.d_law_begun ["_law_wide", "_law_rows"] (sp_begun K) := by
  refine okD T.F_law_begun sc_law_begun (fun vs H Q E h => ?_) (fun cdv A outer s H vs Q E hr h => ?_)
  · first
      | (obtain ⟨_, rfl, _⟩ := h; rfl)
      | (obtain ⟨_, _, rfl, _⟩ := h; rfl)
      | (obtain ⟨_, _, _, rfl, _⟩ := h; rfl)
      | (obtain ⟨_, _, _, _, rfl, _⟩ := h; rfl)
      | (obtain ⟨_, _, _, _, _, rfl, _⟩ := h; rfl)
      | (obtain ⟨_, _, _, _, _, _, rfl, _⟩ := h; rfl)
      | (obtain ⟨_, _, _, _, _, _, _, rfl, _⟩ := h; rfl)
      | (obtain ⟨_, _, _, _, _, _, _, _, rfl, _⟩ := h; rfl)
      | (obtain ⟨_, _, _, _, _, _, _, _, _, rfl, _⟩ := h; rfl)
      | (obtain ⟨_, _, _, _, _, _, _, _, _, _, rfl, _⟩ := h; rfl)
      | (obtain ⟨_, _, _, _, _, _, _, _, _, _, _, rfl, _⟩ := h; rfl)
      | (obtain ⟨_, _, _, _, _, _, _, _, _, _, _, _, rfl, _⟩ := h; rfl)
      | (obtain ⟨_, _, _, _, _, _, _, _, _, _, _, _, _, rfl, _⟩ := h; rfl)
      | (obtain ⟨_, _, _, _, _, _, _, _, _, _, _, _, _, _, rfl, _⟩ := h; rfl)
      | (obtain ⟨_, _, _, _, _, _, _, _, _, _, _, _, _, _, _, rfl, _⟩ := h; rfl)
      | (obtain ⟨_, _, _, _, _, _, _, _, _, _, _, _, _, _, _, _, rfl, _⟩ := h; rfl)
      | (obtain ⟨_, _, _, _, _, _, _, _, _, _, _, _, _, _, _, _, _, rfl, _⟩ := h; rfl)
      | (obtain ⟨_, _, _, _, _, _, _, _, _, _, _, _, _, _, _, _, _, _, rfl, _⟩ := h; rfl)
      | (obtain ⟨_, _, _, _, _, _, _, _, _, _, _, _, _, _, _, _, _, _, _, rfl, _⟩ := h; rfl)
  · obtain ⟨F, xs, rs, n, rfl, hF, rw0, lr, shp, dn, hn, k⟩ := h
    refine ⟨_, (pss_cons (ps_set (i := 2) sc_law_begun.nd rfl (Or.inl rfl) (pe_disp (pps_cons pe_str pe_str (pps_cons pe_str (pe_lst (pa_cons (pe_tup (pa_cons (pv 0) (pa_cons pe_int pa_nil))) pa_nil)) (pps_cons pe_str (pe_lst pa_nil) (pps_cons pe_str pe_str pps_nil)))) (by rfl) (by rfl) (fun z => by cases z) (by decide)))
      (pss_cons (ps_expr (d1 (ok_law_comes T) (hr.mono (by decide)) (by rfl) T.m_law_comes T.F_law_comes.kp T.b_law_comes passL (pa_cons (pv 1) (pa_cons (pv 2) (pa_cons pe_int pa_nil)))))
      (pss_one (ps_ret (pv 2))))), ?_⟩
    dsimp only [cxOf, st_1, st_2, st_3, st_4, st_5, st_6, List.length_cons, List.length_nil, List.replicate_succ, List.replicate_zero, Nat.reduceAdd, Nat.reduceSub]
    walk_at "gs"
    rename_i d fd
    have kd : Kp [] H (upd H d (.dK [])) := Kp.new fd
    have hd : (upd H d (.dK [])) d = some (.dK []) := upd_same
    obtain ⟨H1, e1⟩ : ∃ H1, H1 = upd H d (.dK []) := ⟨_, rfl⟩
    rw [← e1] at kd hd ⊢
    refine i_new fun t ft => ?_
    have kt : Kp [] H1 (upd H1 t (.tup [V.int n, V.int 0])) := Kp.new ft
    have ht : (upd H1 t (.tup [V.int n, V.int 0])) t = some (.tup [V.int n, V.int 0]) := upd_same
    obtain ⟨H2, e2⟩ : ∃ H2, H2 = upd H1 t (.tup [V.int n, V.int 0]) := ⟨_, rfl⟩
    rw [← e2] at kt ht ⊢
    walk_at "gs"
    refine i_new fun Rw fR => ?_
    have kR : Kp [] H2 (upd H2 Rw (.lst [V.ref t])) := Kp.new fR
    have hR : (upd H2 Rw (.lst [V.ref t])) Rw = some (.lst [V.ref t]) := upd_same
    obtain ⟨H3, e3⟩ : ∃ H3, H3 = upd H2 Rw (.lst [V.ref t]) := ⟨_, rfl⟩
    rw [← e3] at kR hR ⊢
    walk_at "gs"
    refine i_new fun Td fT => ?_
    have kT : Kp [] H3 (upd H3 Td (.lst [])) := Kp.new fT
    have hT : (upd H3 Td (.lst [])) Td = some (.lst []) := upd_same
    obtain ⟨H4, e4⟩ : ∃ H4, H4 = upd H3 Td (.lst []) := ⟨_, rfl⟩
    rw [← e4] at kT hT ⊢
    have k14 := Kp.trans kt (Kp.trans kR kT)
    have hd4 := k14.at_ _ _ hd not_nil
    walk_at "gs"
    refine i_disp4e hd4 ?_
    have kA : Kp [d] H4 (upd H4 d (.dK (oneD "" Rw Td "" none))) := kp_dK hd4
    have hA : (upd H4 d (.dK (oneD "" Rw Td "" none))) d = some (.dK (oneD "" Rw Td "" none)) := upd_same
    obtain ⟨H5, e5⟩ : ∃ H5, H5 = upd H4 d (.dK (oneD "" Rw Td "" none)) := ⟨_, rfl⟩
    rw [← e5] at kA hA ⊢
    have fd2 : ∀ b ∈ [d], Fr H b := fun b hb => by
      rw [List.mem_singleton.mp hb]
      exact fd
    have k05 : Kp [] H H5 := Kp.own kA (Kp.trans kd k14) fd2
    have nR : Rw ≠ d := (fr_ne (kt.at_ _ _ hd not_nil) fR).symm
    have nT : Td ≠ d := (fr_ne ((Kp.trans kt kR).at_ _ _ hd not_nil) fT).symm
    have rl : rle (List.replicate n.toNat 0) = [(n, 0)] := rle_one hn
    have lR : LD K H5 Rw ((rle (List.replicate n.toNat 0)).map d2) := by
      rw [rl]
      exact ⟨_, kA.at_ _ _ (kT.at_ _ _ hR not_nil) (not_one nR), dpa_one (dp_mk2 (a := t) (m := n) (n := 0) (SqT.of (kA.fix _ _ ((Kp.trans kR kT).fix _ _ ht trivial) trivial)))⟩
    have O : OneAt K H5 d Rw Td "" none ⟨-1, "", List.replicate n.toNat 0, []⟩ := ⟨hA, lR, kA.at_ _ _ hT (not_one nT), fr_ne hR fT⟩
    walk_at "gs"
    refine ⟨F, d, Rw, Td, xs, rs, "", none, _, 0, rfl, O, k05.at_ _ _ hF not_nil, rw0.kp k05, Nat.zero_le _, lr, shp, dn, fun H6 k6 O6 => ?_⟩
    walk_at "gs"
    refine k d Rw Td 0 H6 fd ((Kp.trans kd (Kp.trans kt kR)).free fT) (Kp.own (Kp.trans kA k6) (Kp.trans kd k14) fd2) O6 fun r => ?_
    unfold beginS comeTo at r ⊢
    have nd : ¬ (Str.ofString "done" = Str.ofString "") := by decide +kernel
    split at r
    · exact absurd r nd
    · split at r
      · exact absurd r nd
      · rename_i nq
        simp only [if_neg nq]
        rfl

/-! ### the law's own rows of runs -/
def sp_lpart (K : PySem.W.Frag) : Sp := fun vs H Q _ => ∃ (a : Addr) (b e : Int) (ps : List (Int × Int)),
  vs = [.ref a, .int b, .int e] ∧ Dp K H (.ref a) (.list (ps.map d2)) ∧ ps.length ≤ 100000 ∧
  ∀ l H', Fr H l → Kp [] H H' → LD K H' l ((cut b e ps).map d2) → Q (.ref l) H'
theorem sc_law_part : FnScope ["_law_row", "_law_begin", "_law_stop", "_law_found", "_law_here", "_law_many", "_law_number", "_law_low", "_law_high"] ["_law_row", "_law_begin", "_law_stop"] (defScope s_law_part) :=
  ⟨rfl, rfl, rfl, by decide +kernel, rfl, by decide +kernel, by decide +kernel⟩
theorem ok_law_part {P : Program} {w : World} {K : PySem.W.Frag} {mg : Str → Option Value} {base : Heap} (T : Txt w K mg) :
    FnG P w K mg base 1 T.a_law_part T.d_law_part ["_law_row", "_law_begin", "_law_stop"] (sp_lpart K) := by
  refine okD T.F_law_part sc_law_part (fun vs H Q E h => ?_) (fun cdv A outer s H vs Q E hr h => ?_)
  · first
      | (obtain ⟨_, rfl, _⟩ := h; rfl)
      | (obtain ⟨_, _, rfl, _⟩ := h; rfl)
      | (obtain ⟨_, _, _, rfl, _⟩ := h; rfl)
      | (obtain ⟨_, _, _, _, rfl, _⟩ := h; rfl)
      | (obtain ⟨_, _, _, _, _, rfl, _⟩ := h; rfl)
      | (obtain ⟨_, _, _, _, _, _, rfl, _⟩ := h; rfl)
      | (obtain ⟨_, _, _, _, _, _, _, rfl, _⟩ := h; rfl)
      | (obtain ⟨_, _, _, _, _, _, _, _, rfl, _⟩ := h; rfl)
      | (obtain ⟨_, _, _, _, _, _, _, _, _, rfl, _⟩ := h; rfl)
      | (obtain ⟨_, _, _, _, _, _, _, _, _, _, rfl, _⟩ := h; rfl)
      | (obtain ⟨_, _, _, _, _, _, _, _, _, _, _, rfl, _⟩ := h; rfl)
      | (obtain ⟨_, _, _, _, _, _, _, _, _, _, _, _, rfl, _⟩ := h; rfl)
      | (obtain ⟨_, _, _, _, _, _, _, _, _, _, _, _, _, rfl, _⟩ := h; rfl)
      | (obtain ⟨_, _, _, _, _, _, _, _, _, _, _, _, _, _, rfl, _⟩ := h; rfl)
      | (obtain ⟨_, _, _, _, _, _, _, _, _, _, _, _, _, _, _, rfl, _⟩ := h; rfl)
      | (obtain ⟨_, _, _, _, _, _, _, _, _, _, _, _, _, _, _, _, rfl, _⟩ := h; rfl)
      | (obtain ⟨_, _, _, _, _, _, _, _, _, _, _, _, _, _, _, _, _, rfl, _⟩ := h; rfl)
      | (obtain ⟨_, _, _, _, _, _, _, _, _, _, _, _, _, _, _, _, _, _, rfl, _⟩ := h; rfl)
      | (obtain ⟨_, _, _, _, _, _, _, _, _, _, _, _, _, _, _, _, _, _, _, rfl, _⟩ := h; rfl)
  · obtain ⟨a, b, e, ps, rfl, ha, hps, k⟩ := h
    cases ha
    rename_i xs hsq hall
    have hlen := dpa_len hall
    rw [List.length_map] at hlen
    have cl_Memory := T.cl_Memory
    have na_Memory_pairs := T.na_Memory_pairs
    have na_Memory_wide := T.na_Memory_wide
    have cl_Lone := T.cl_Lone
    have na_Lone_all_rows := T.na_Lone_all_rows
    have na_Lone_cells := T.na_Lone_cells
    have na_Lone_next_row := T.na_Lone_next_row
    have na_Lone_numbers := T.na_Lone_numbers
    have na_Lone_rested := T.na_Lone_rested
    have cl_Program := T.cl_Program
    have na_Program_own_rows := T.na_Program_own_rows
    have na_Program_own_size := T.na_Program_own_size
    refine ⟨_, (pss_cons (ps_par (i := 3) (j := 4) (by rfl) sc_law_part.nd rfl rfl (by decide) rfl rfl (pa_cons (pe_lst pa_nil) (pa_cons pe_int pa_nil)) (by rfl))
      (pss_cons (ps_for (passes_of rfl) rfl (k_plist (K := K) rfl (pv 0)) (k_gtup (K := K) 2 rfl rfl (pgs_cons (pg_name (i := 5) sc_law_part.nd rfl (Or.inl rfl)) (pgs_cons (pg_name (i := 6) sc_law_part.nd rfl (Or.inl rfl)) pgs_nil)))
      (pss_cons (ps_par (i := 7) (j := 8) (by rfl) sc_law_part.nd rfl rfl (by decide) rfl rfl (pa_cons (pe_callB (c_max2 rfl) (by rfl) T.n_max (by decide +kernel) (pa_cons (pv 4) (pa_cons (pv 1) pa_nil))) (pa_cons (pe_callB (c_min2 rfl) (by rfl) T.n_min (by decide +kernel) (pa_cons (pe_op (k_add (K := K) rfl) (pv 4) (pv 5)) (pa_cons (pv 2) pa_nil))) pa_nil)) (by rfl))
      (pss_cons (ps_if (pt_cmpR op_lt (pv 7) (pv 8) (nomark _)) (pss_one (ps_expr (pe_bm PySem.F.plainAttrs_list PySem.F.slot_list_append PySem.F.type_list_append mt_append (pv 3) (pa_cons (pe_tup (pa_cons (pe_op op_sub (pv 8) (pv 7)) (pa_cons (pv 6) pa_nil))) pa_nil)))) pss_nil)
      (pss_one (ps_set (i := 4) sc_law_part.nd rfl (Or.inl rfl) (pe_op (k_add (K := K) rfl) (pv 4) (pv 5)))))))
      (pss_one (ps_ret (pv 3))))), ?_⟩
    dsimp only [cxOf, st_1, st_2, st_3, st_4, st_5, st_6, List.length_cons, List.length_nil, List.replicate_succ, List.replicate_zero, Nat.reduceAdd, Nat.reduceSub]
    walk_at "gs"
    refine i_new fun l hl => ?_
    walk_at "gs"
    refine i_each ((Kp.new hl).seqL (ws := []) List.not_mem_nil hsq) (fun i σ H' => ∃ u v w x, σ = [some (.ref a), some (.int b), some (.int e), some (.ref l), some (.int (wide (ps.take i))), u, v, w, x] ∧ Kp [] H H' ∧
      LD K H' l ((cut b e (ps.take i)).map d2)) ?_ ?_ ?_ ?_
    · exact ⟨none, none, none, none, rfl, Kp.new hl, ⟨[], upd_same, .nil⟩⟩
    · rintro i σ H' _ ⟨u, v, w, x, rfl, kp, ld⟩
      exact kp.seqL List.not_mem_nil hsq
    · rintro i x σ H' hx ⟨u, v, w, y, rfl, kp, ld⟩
      obtain ⟨d, hd, hdp⟩ := dpa_getV hall hx
      obtain ⟨p, hp, rfl⟩ := map_get hd
      obtain ⟨pa, rfl, hpt⟩ := dp_pair hdp
      replace hpt := kp.seqT hpt
      obtain ⟨vs, hvs, hall2⟩ := id ld
      have hvl := dpa_len hall2
      rw [List.length_map] at hvl
      have hcl := cut_len b e (ps.take i)
      rw [List.length_take] at hcl
      have hil : i < ps.length := (List.getElem?_eq_some_iff.mp hp).1
      walk_at "gs"
      rw [Int.max_comm (wide (ps.take i)) b, Int.min_comm (wide (ps.take i) + p.1) e]
      refine i_dec (fun c => ?_) (fun c => ?_)
      · walk_at "gs"
        refine i_new fun t ht => ?_
        walk_at "gs"
        rw [wide_take hp, cut_take hp, if_pos c, List.map_append]
        refine ⟨_, _, _, _, rfl, by walk_at "g_kp", ?_⟩
        exact ld_push (ws := [l]) (H0 := H') (by walk_at "g_kp") hall2 (imms_d2 _) upd_same (dp_mk2 (m := min e (wide (ps.take i) + p.1) - max b (wide (ps.take i))) (n := p.2) (by walk_at "g_st"))
      · walk_at "gs"
        rw [wide_take hp, cut_take hp, if_neg c, List.append_nil]
        exact ⟨_, _, _, _, rfl, kp, ld⟩
    · rintro σ H' ⟨u, v, w, x, rfl, kp, ld⟩
      walk_at "gs"
      rw [List.take_of_length_le (by omega)] at ld
      exact k l H' hl kp ld
def sp_among (K : PySem.W.Frag) : Sp := fun vs H Q _ => ∃ (p l : Addr) (xs : List V), vs = [.ref p, .ref l] ∧ PotAt H p ∧ SqL K H l xs ∧ l ≠ p ∧ 0 < xs.length ∧ xs.length ≤ 1000 ∧
  ∀ v H', v ∈ xs → PotAt H' p → Kp [p] H H' → Q v H'
def sp_wide (K : PySem.W.Frag) : Sp := fun vs H Q _ => ∃ p : Addr, vs = [.ref p] ∧ PotAt H p ∧ ∀ n H', 1 ≤ n → n ≤ 1000000000000000000 → PotAt H' p → Kp [p] H H' → Q (.int n) H'

def sp_ljoined (K : PySem.W.Frag) : Sp := fun vs H Q _ => ∃ (a : Addr) (ps : List (Int × Int)),
  vs = [.ref a] ∧ Dp K H (.ref a) (.list (ps.map d2)) ∧ ps.length ≤ 100000 ∧ (∀ q ∈ ps, 0 < q.1) ∧
  ∀ l H', Fr H l → Kp [] H H' → LD K H' l ((jnd ps).map d2) → Q (.ref l) H'
theorem sc_law_joined : FnScope ["_law_row", "_law_found", "_law_many", "_law_number"] ["_law_row"] (defScope s_law_joined) :=
  ⟨rfl, rfl, rfl, by decide +kernel, rfl, by decide +kernel, by decide +kernel⟩
theorem ok_law_joined {P : Program} {w : World} {K : PySem.W.Frag} {mg : Str → Option Value} {base : Heap} (T : Txt w K mg) :
    FnG P w K mg base 1 T.a_law_joined T.d_law_joined ["_law_row"] (sp_ljoined K) := by
  refine okD T.F_law_joined sc_law_joined (fun vs H Q E h => ?_) (fun cdv A outer s H vs Q E hr h => ?_)
  · first
      | (obtain ⟨_, rfl, _⟩ := h; rfl)
      | (obtain ⟨_, _, rfl, _⟩ := h; rfl)
      | (obtain ⟨_, _, _, rfl, _⟩ := h; rfl)
      | (obtain ⟨_, _, _, _, rfl, _⟩ := h; rfl)
      | (obtain ⟨_, _, _, _, _, rfl, _⟩ := h; rfl)
      | (obtain ⟨_, _, _, _, _, _, rfl, _⟩ := h; rfl)
      | (obtain ⟨_, _, _, _, _, _, _, rfl, _⟩ := h; rfl)
      | (obtain ⟨_, _, _, _, _, _, _, _, rfl, _⟩ := h; rfl)
      | (obtain ⟨_, _, _, _, _, _, _, _, _, rfl, _⟩ := h; rfl)
      | (obtain ⟨_, _, _, _, _, _, _, _, _, _, rfl, _⟩ := h; rfl)
      | (obtain ⟨_, _, _, _, _, _, _, _, _, _, _, rfl, _⟩ := h; rfl)
      | (obtain ⟨_, _, _, _, _, _, _, _, _, _, _, _, rfl, _⟩ := h; rfl)
      | (obtain ⟨_, _, _, _, _, _, _, _, _, _, _, _, _, rfl, _⟩ := h; rfl)
      | (obtain ⟨_, _, _, _, _, _, _, _, _, _, _, _, _, _, rfl, _⟩ := h; rfl)
      | (obtain ⟨_, _, _, _, _, _, _, _, _, _, _, _, _, _, _, rfl, _⟩ := h; rfl)
      | (obtain ⟨_, _, _, _, _, _, _, _, _, _, _, _, _, _, _, _, rfl, _⟩ := h; rfl)
      | (obtain ⟨_, _, _, _, _, _, _, _, _, _, _, _, _, _, _, _, _, rfl, _⟩ := h; rfl)
      | (obtain ⟨_, _, _, _, _, _, _, _, _, _, _, _, _, _, _, _, _, _, rfl, _⟩ := h; rfl)
      | (obtain ⟨_, _, _, _, _, _, _, _, _, _, _, _, _, _, _, _, _, _, _, rfl, _⟩ := h; rfl)
  · obtain ⟨a, ps, rfl, ha, hps, pos, k⟩ := h
    cases ha
    rename_i xs hsq hall
    have hlen := dpa_len hall
    rw [List.length_map] at hlen
    have cl_Memory := T.cl_Memory
    have na_Memory_pairs := T.na_Memory_pairs
    have na_Memory_wide := T.na_Memory_wide
    have cl_Lone := T.cl_Lone
    have na_Lone_all_rows := T.na_Lone_all_rows
    have na_Lone_cells := T.na_Lone_cells
    have na_Lone_next_row := T.na_Lone_next_row
    have na_Lone_numbers := T.na_Lone_numbers
    have na_Lone_rested := T.na_Lone_rested
    have cl_Program := T.cl_Program
    have na_Program_own_rows := T.na_Program_own_rows
    have na_Program_own_size := T.na_Program_own_size
    refine ⟨_, (pss_cons (ps_set (i := 1) sc_law_joined.nd rfl (Or.inl rfl) (pe_lst pa_nil))
      (pss_cons (ps_for (passes_of rfl) rfl (k_plist (K := K) rfl (pv 0)) (k_gtup (K := K) 2 rfl rfl (pgs_cons (pg_name (i := 2) sc_law_joined.nd rfl (Or.inl rfl)) (pgs_cons (pg_name (i := 3) sc_law_joined.nd rfl (Or.inl rfl)) pgs_nil)))
      (pss_cons (ps_if (PW.pt (pw_and (pt_cmpR (k_ne (K := K) rfl hr.r.units) (pv 1) (pe_lst pa_nil) (nomark _)) (pw_and1 (pt_cmpR (k_eq (K := K) rfl hr.r.units) (pe_ix (k_ix (K := K) rfl) (pe_ix (k_ix (K := K) rfl) (pv 1) (pe_un un_neg pe_int) (fun _ _ => rfl)) pe_int (fun _ _ => rfl)) (pv 3) (nomark _))))) (pss_one (ps_set (i := 2) sc_law_joined.nd rfl (Or.inl rfl) (pe_op (k_add (K := K) rfl) (pv 2) (pe_ix (k_ix (K := K) rfl) (pe_bm0 PySem.F.plainAttrs_list PySem.F.slot_list_pop PySem.F.type_list_pop mt_pop (pv 1)) pe_int (fun _ _ => rfl))))) pss_nil)
      (pss_one (ps_expr (pe_bm PySem.F.plainAttrs_list PySem.F.slot_list_append PySem.F.type_list_append mt_append (pv 1) (pa_cons (pe_tup (pa_cons (pv 2) (pa_cons (pv 3) pa_nil))) pa_nil))))))
      (pss_one (ps_ret (pv 1))))), ?_⟩
    dsimp only [cxOf, st_1, st_2, st_3, st_4, st_5, st_6, List.length_cons, List.length_nil, List.replicate_succ, List.replicate_zero, Nat.reduceAdd, Nat.reduceSub]
    walk_at "gs"
    refine i_new fun l hl => ?_
    walk_at "gs"
    refine i_each ((Kp.new hl).seqL (ws := []) List.not_mem_nil hsq) (fun i σ H' => ∃ u v, σ = [some (.ref a), some (.ref l), u, v] ∧ Kp [] H H' ∧
      LD K H' l ((jnd (ps.take i)).map d2)) ?_ ?_ ?_ ?_
    · exact ⟨none, none, rfl, Kp.new hl, ⟨[], upd_same, .nil⟩⟩
    · rintro i σ H' _ ⟨u, v, rfl, kp, ld⟩
      exact kp.seqL List.not_mem_nil hsq
    · rintro i x σ H' hx ⟨u, v, rfl, kp, ld⟩
      obtain ⟨d, hd, hdp⟩ := dpa_getV hall hx
      obtain ⟨p, hp, rfl⟩ := map_get hd
      obtain ⟨pa, rfl, hpt⟩ := dp_pair hdp
      replace hpt := kp.seqT hpt
      have h0 := pos p (List.mem_of_getElem? hp)
      obtain ⟨vs, hvs, hall2⟩ := id ld
      have hvl := dpa_len hall2
      rw [List.length_map] at hvl
      have hjl := jnd_len ps i
      have hil : i < ps.length := (List.getElem?_eq_some_iff.mp hp).1
      walk_at "gs"
      refine i_new fun q hq => ?_
      walk_at "gs"
      refine ne_nil ld (imms_d2 _) (shaped_pairs _) hq ?_
      walk_at "gs"
      refine i_boN (fun e => ?_) (fun e => ?_)
      · obtain ⟨f0, q0, hF⟩ := list_last (l := jnd (ps.take i)) (by
          intro z
          rw [z] at e
          cases e)
        rw [hF, List.map_append] at hall2
        obtain ⟨us, x, rfl, hu, hx2⟩ := dpa_last hall2
        obtain ⟨qa, rfl, hqa⟩ := dp_pair hx2
        rw [List.length_append, List.length_singleton] at hvl
        walk_at "gs"
        refine i_dec (fun h1 => ?_) (fun h1 => ?_)
        · walk_at "gs"
          have nlq : l ≠ q := fr_ne hvs hq
          have hl1 : (upd H' q (.lst [])) l = some (.lst (us ++ [V.ref qa])) := by rw [upd_ne nlq]; exact hvs
          refine i_popV hl1 ?_
          walk_at "gs"
          refine i_new fun t ht => ?_
          walk_at "gs"
          refine ⟨_, _, rfl, ?_, _, upd_same, ?_⟩
          · walk_at "g_kp"
          · have kl : Kp [l] H' (upd (upd (upd (upd H' q (.lst [])) l (.lst us)) t (.tup [.int (p.1 + q0.1), .int p.2])) l (.lst (us ++ [V.ref t]))) := by walk_at "g_kp"
            rw [jnd_take hp, hF, jst_same h0 h1, List.map_append, Int.add_comm q0.1 p.1]
            exact dpa_app (dpa_imm kl _ _ (imms_d2 _) hu) (dpa_one (dp_mk2 (by walk_at "g_st")))
        · walk_at "gs"
          refine i_new fun t ht => ?_
          walk_at "gs"
          refine ⟨_, _, rfl, ?_, _, upd_same, ?_⟩
          · walk_at "g_kp"
          · have kl : Kp [l] H' (upd (upd (upd H' q (.lst [])) t (.tup [.int p.1, .int p.2])) l (.lst (us ++ [V.ref qa] ++ [V.ref t]))) := by walk_at "g_kp"
            rw [jnd_take hp, hF, jst_other h0 h1, List.map_append, List.map_append]
            exact dpa_app (dpa_app (dpa_imm kl _ _ (imms_d2 _) hu) (dpa_one (dp_imm kl _ _ rfl hx2))) (dpa_one (dp_mk2 (by walk_at "g_st")))
      · walk_at "gs"
        have hF : jnd (ps.take i) = [] := by
          cases z : jnd (ps.take i) with
          | nil => rfl
          | cons x y =>
            rw [z] at e
            cases e
        refine i_new fun t ht => ?_
        walk_at "gs"
        rw [hF] at hall2
        cases hall2
        refine ⟨_, _, rfl, ?_, _, upd_same, ?_⟩
        · walk_at "g_kp"
        · rw [jnd_take hp, hF, jst_nil h0]
          exact dpa_one (dp_mk2 (by walk_at "g_st"))
    · rintro σ H' ⟨u, v, rfl, kp, ld⟩
      walk_at "gs"
      rw [List.take_of_length_le (by omega)] at ld
      exact k l H' hl kp ld

def sp_with (K : PySem.W.Frag) : Sp := fun vs H Q _ => ∃ (r x : Addr) (b : Int) (cs : List Int) (ps : List (Int × Int)), vs = [.ref r, .int b, .ref x] ∧ LD K H r ((rle cs).map d2) ∧ LD K H x (ps.map d2) ∧ (rle cs).length ≤ 10000 ∧ ps.length ≤ 10000 ∧ (∀ q ∈ ps, 0 < q.1) ∧
  ∀ l H', Fr H l → Kp [] H H' → LD K H' l ((rle (laid cs b.toNat (cells ps) (b + wide ps).toNat)).map d2) → Q (.ref l) H'
theorem sc_law_with : FnScope ["_law_row", "_law_begin", "_law_part_here", "_law_stop", "_law_wide", "_law_many", "_law_number"] ["_law_row", "_law_begin", "_law_part_here"] (defScope s_law_with) :=
  ⟨rfl, rfl, rfl, by decide +kernel, rfl, by decide +kernel, by decide +kernel⟩
theorem ok_law_with {P : Program} {w : World} {K : PySem.W.Frag} {mg : Str → Option Value} {base : Heap} (T : Txt w K mg) :
    FnG P w K mg base 2 T.a_law_with T.d_law_with ["_law_row", "_law_begin", "_law_part_here"] (sp_with K) := by
  refine okD T.F_law_with sc_law_with (fun vs H Q E h => ?_) (fun cdv A outer s H vs Q E hr h => ?_)
  · first
      | (obtain ⟨_, rfl, _⟩ := h; rfl)
      | (obtain ⟨_, _, rfl, _⟩ := h; rfl)
      | (obtain ⟨_, _, _, rfl, _⟩ := h; rfl)
      | (obtain ⟨_, _, _, _, rfl, _⟩ := h; rfl)
      | (obtain ⟨_, _, _, _, _, rfl, _⟩ := h; rfl)
      | (obtain ⟨_, _, _, _, _, _, rfl, _⟩ := h; rfl)
      | (obtain ⟨_, _, _, _, _, _, _, rfl, _⟩ := h; rfl)
      | (obtain ⟨_, _, _, _, _, _, _, _, rfl, _⟩ := h; rfl)
      | (obtain ⟨_, _, _, _, _, _, _, _, _, rfl, _⟩ := h; rfl)
      | (obtain ⟨_, _, _, _, _, _, _, _, _, _, rfl, _⟩ := h; rfl)
      | (obtain ⟨_, _, _, _, _, _, _, _, _, _, _, rfl, _⟩ := h; rfl)
      | (obtain ⟨_, _, _, _, _, _, _, _, _, _, _, _, rfl, _⟩ := h; rfl)
      | (obtain ⟨_, _, _, _, _, _, _, _, _, _, _, _, _, rfl, _⟩ := h; rfl)
      | (obtain ⟨_, _, _, _, _, _, _, _, _, _, _, _, _, _, rfl, _⟩ := h; rfl)
      | (obtain ⟨_, _, _, _, _, _, _, _, _, _, _, _, _, _, _, rfl, _⟩ := h; rfl)
      | (obtain ⟨_, _, _, _, _, _, _, _, _, _, _, _, _, _, _, _, rfl, _⟩ := h; rfl)
      | (obtain ⟨_, _, _, _, _, _, _, _, _, _, _, _, _, _, _, _, _, rfl, _⟩ := h; rfl)
      | (obtain ⟨_, _, _, _, _, _, _, _, _, _, _, _, _, _, _, _, _, _, rfl, _⟩ := h; rfl)
      | (obtain ⟨_, _, _, _, _, _, _, _, _, _, _, _, _, _, _, _, _, _, _, rfl, _⟩ := h; rfl)
  · obtain ⟨r, x, b, cs, ps, rfl, lr, lx, hn, hp, pos, k⟩ := h
    obtain ⟨rv, hrw, ar⟩ := id lr
    obtain ⟨xv, hx, ax⟩ := id lx
    have lrv := dpa_len ar
    have lxv := dpa_len ax
    rw [List.length_map] at lrv lxv
    have n1 := cut_len 0 b (rle cs)
    have n2 := cut_len (b + wide ps) cs.length (rle cs)
    refine ⟨_, (pss_cons (ps_set (i := 3) sc_law_with.nd rfl (Or.inl rfl) (pe_op (k_add (K := K) rfl) (pv 1) (pe_callB (k_sum (K := K) rfl rfl) (by rfl) T.n_sum (by decide +kernel) (pa_cons (pe_lc (own := [("_law_many", 5), ("_law_number", 6)]) (g := (gTup K 2 (gCons (gName 5) (gCons (gName 6) gNil)))) (tt := tYes) rfl sc_law_with.nd (k_plist (K := K) rfl (pv 2)) (blkOk_by (own := [("_law_many", 5), ("_law_number", 6)]) (N := ["_law_row", "_law_begin", "_law_part_here", "_law_stop", "_law_wide", "_law_many", "_law_number"]) (sc := defScope s_law_with) (by decide +kernel)) (fun _ _ _ _ _ => (k_gtup (K := K) 2 rfl rfl (pgs_cons (pg_name (i := 5) sc_law_with.nd rfl (Or.inl rfl)) (pgs_cons (pg_name (i := 6) sc_law_with.nd rfl (Or.inl rfl)) pgs_nil)))) (fun _ _ _ _ _ => pts_nil) (fun _ _ _ _ _ => (pv 5))) pa_nil))))
      (pss_cons (ps_set (i := 4) sc_law_with.nd rfl (Or.inl rfl) (pe_callB (k_sum (K := K) rfl rfl) (by rfl) T.n_sum (by decide +kernel) (pa_cons (pe_lc (own := [("_law_many", 5), ("_law_number", 6)]) (g := (gTup K 2 (gCons (gName 5) (gCons (gName 6) gNil)))) (tt := tYes) rfl sc_law_with.nd (k_plist (K := K) rfl (pv 0)) (blkOk_by (own := [("_law_many", 5), ("_law_number", 6)]) (N := ["_law_row", "_law_begin", "_law_part_here", "_law_stop", "_law_wide", "_law_many", "_law_number"]) (sc := defScope s_law_with) (by decide +kernel)) (fun _ _ _ _ _ => (k_gtup (K := K) 2 rfl rfl (pgs_cons (pg_name (i := 5) sc_law_with.nd rfl (Or.inl rfl)) (pgs_cons (pg_name (i := 6) sc_law_with.nd rfl (Or.inl rfl)) pgs_nil)))) (fun _ _ _ _ _ => pts_nil) (fun _ _ _ _ _ => (pv 5))) pa_nil)))
      (pss_one (ps_ret (d1 (ok_law_joined T) (hr.mono (by decide)) (by rfl) T.m_law_joined T.F_law_joined.kp T.b_law_joined passL (pa_cons (pe_op (k_add (K := K) rfl) (pe_op (k_add (K := K) rfl) (d1 (ok_law_part T) (hr.mono (by decide)) (by rfl) T.m_law_part T.F_law_part.kp T.b_law_part passL (pa_cons (pv 0) (pa_cons pe_int (pa_cons (pv 1) pa_nil)))) (pv 2)) (d1 (ok_law_part T) (hr.mono (by decide)) (by rfl) T.m_law_part T.F_law_part.kp T.b_law_part passL (pa_cons (pv 0) (pa_cons (pv 3) (pa_cons (pv 4) pa_nil))))) pa_nil)))))), ?_⟩
    dsimp only [cxOf, st_1, st_2, st_3, st_4, st_5, st_6, List.length_cons, List.length_nil, List.replicate_succ, List.replicate_zero, Nat.reduceAdd, Nat.reduceSub]
    walk_at "gs"
    refine i_mapL (SqL.of hx) ((ps.map (·.1)).map V.int) (by rw [List.length_map, List.length_map]; omega) (by omega) ?_ ?_
    · intro D i y z H' Q' fD hy hz k3 q
      obtain ⟨d, hd, hdp⟩ := dpa_getV ax hy
      obtain ⟨p, hp, rfl⟩ := map_get hd
      obtain ⟨t, rfl, hT⟩ := dp_pair (dp_imm k3 _ _ rfl hdp)
      rw [List.getElem?_map, List.getElem?_map, hp] at hz
      cases hz
      walk_at "gs"
      exact q H' Kp.refl
    intro D1 H1 fD1 k1 e1
    walk_at "gs"
    refine i_sum (SqL.of e1) ?_
    rw [show (ps.map (·.1)).sum = wide ps from rfl]
    have hr1 := k1.at_ _ _ hrw not_nil
    walk_at "gs"
    refine i_mapL (SqL.of hr1) (((rle cs).map (·.1)).map V.int) (by rw [List.length_map, List.length_map]; omega) (by omega) ?_ ?_
    · intro D i y z H' Q' fD hy hz k3 q
      obtain ⟨d, hd, hdp⟩ := dpa_getV ar hy
      obtain ⟨p, hp, rfl⟩ := map_get hd
      obtain ⟨t, rfl, hT⟩ := dp_pair (dp_imm (Kp.trans k1 k3) _ _ rfl hdp)
      rw [List.getElem?_map, List.getElem?_map, hp] at hz
      cases hz
      walk_at "gs"
      exact q H' Kp.refl
    intro D2 H2 fD2 k2 e2
    walk_at "gs"
    refine i_sum (SqL.of e2) ?_
    rw [show ((rle cs).map (·.1)).sum = cs.length from wide_rle cs]
    have k02 := Kp.trans k1 k2
    have lr2 := lr.kp k02 (imms_d2 _) not_nil
    walk_at "gs"
    refine ⟨r, 0, b, rle cs, rfl, lr2.dp, by omega, fun f H3 hf k3 lf => ?_⟩
    have k03 := Kp.trans k02 k3
    obtain ⟨fv, hfv, af⟩ := id lf
    have hx3 := k03.at_ _ _ hx not_nil
    have lfv := dpa_len af
    rw [List.length_map] at lfv
    walk_at "gs"
    refine i_new fun s hs => ?_
    have kS := Kp.new (ws := []) (o := HO.lst (fv ++ xv)) hs
    have hS := fresh_at (o := HO.lst (fv ++ xv)) hs
    obtain ⟨H4, e4⟩ : ∃ H4, H4 = upd H3 s (.lst (fv ++ xv)) := ⟨_, rfl⟩
    rw [← e4] at kS hS ⊢
    have k04 := Kp.trans k03 kS
    have lr4 := lr.kp k04 (imms_d2 _) not_nil
    walk_at "gs"
    refine ⟨r, b + wide ps, cs.length, rle cs, rfl, lr4.dp, by omega, fun g H5 hg k5 lg => ?_⟩
    obtain ⟨gv, hgv, ag⟩ := id lg
    have lgv := dpa_len ag
    rw [List.length_map] at lgv
    have hS5 := k5.at_ _ _ hS not_nil
    walk_at "gs"
    refine i_new fun u hu => ?_
    have kU := Kp.new (ws := []) (o := HO.lst (fv ++ xv ++ gv)) hu
    have hU := fresh_at (o := HO.lst (fv ++ xv ++ gv)) hu
    obtain ⟨H6, e6⟩ : ∃ H6, H6 = upd H5 u (.lst (fv ++ xv ++ gv)) := ⟨_, rfl⟩
    rw [← e6] at kU hU ⊢
    have k36 := Kp.trans kS (Kp.trans k5 kU)
    have k06 := Kp.trans k03 k36
    walk_at "gs"
    refine ⟨u, cut 0 b (rle cs) ++ ps ++ cut (b + wide ps) cs.length (rle cs), rfl, LD.dp ⟨_, hU, ?_⟩, ?_, fun q hq => ?_, fun l H7 hl k7 ll => ?_⟩
    · rw [List.map_append, List.map_append]
      exact dpa_app (dpa_app (dpa_imm k36 _ _ (imms_d2 _) af) (dpa_imm k06 _ _ (imms_d2 _) ax)) (dpa_imm kU _ _ (imms_d2 _) ag)
    · rw [List.length_append, List.length_append]
      omega
    · rcases List.mem_append.mp hq with h | h
      · rcases List.mem_append.mp h with h | h
        · exact cutF_pos _ _ _ _ _ h
        · exact pos q h
      · exact cutF_pos _ _ _ _ _ h
    rw [laid_rle] at ll
    walk_at "gs"
    exact k l H7 (k06.free hl) (Kp.trans k06 k7) ll

/-! ### the law's own deeds -/
def sp_lat (K : PySem.W.Frag) : Sp := fun vs H Q _ => ∃ (Rw : Addr) (c : Int) (cs : List Int), vs = [.ref Rw, .int c] ∧ LD K H Rw ((rle cs).map d2) ∧ inC cs c ∧ (rle cs).length ≤ 10000 ∧ ∀ H', Kp [] H H' → Q (.int (getC cs c)) H'
theorem sc_law_at : FnScope ["_law_row", "_law_cell_here"] ["_law_row", "_law_cell_here"] (defScope s_law_at) :=
  ⟨rfl, rfl, rfl, by decide +kernel, rfl, by decide +kernel, by decide +kernel⟩
theorem ok_law_at {P : Program} {w : World} {K : PySem.W.Frag} {mg : Str → Option Value} {base : Heap} (T : Txt w K mg) :
    FnG P w K mg base 2 T.a_law_at T.d_law_at ["_law_row", "_law_cell_here"] (sp_lat K) := by
  refine okD T.F_law_at sc_law_at (fun vs H Q E h => ?_) (fun cdv A outer s H vs Q E hr h => ?_)
  · first
      | (obtain ⟨_, rfl, _⟩ := h; rfl)
      | (obtain ⟨_, _, rfl, _⟩ := h; rfl)
      | (obtain ⟨_, _, _, rfl, _⟩ := h; rfl)
      | (obtain ⟨_, _, _, _, rfl, _⟩ := h; rfl)
      | (obtain ⟨_, _, _, _, _, rfl, _⟩ := h; rfl)
      | (obtain ⟨_, _, _, _, _, _, rfl, _⟩ := h; rfl)
      | (obtain ⟨_, _, _, _, _, _, _, rfl, _⟩ := h; rfl)
      | (obtain ⟨_, _, _, _, _, _, _, _, rfl, _⟩ := h; rfl)
      | (obtain ⟨_, _, _, _, _, _, _, _, _, rfl, _⟩ := h; rfl)
      | (obtain ⟨_, _, _, _, _, _, _, _, _, _, rfl, _⟩ := h; rfl)
      | (obtain ⟨_, _, _, _, _, _, _, _, _, _, _, rfl, _⟩ := h; rfl)
      | (obtain ⟨_, _, _, _, _, _, _, _, _, _, _, _, rfl, _⟩ := h; rfl)
      | (obtain ⟨_, _, _, _, _, _, _, _, _, _, _, _, _, rfl, _⟩ := h; rfl)
      | (obtain ⟨_, _, _, _, _, _, _, _, _, _, _, _, _, _, rfl, _⟩ := h; rfl)
      | (obtain ⟨_, _, _, _, _, _, _, _, _, _, _, _, _, _, _, rfl, _⟩ := h; rfl)
      | (obtain ⟨_, _, _, _, _, _, _, _, _, _, _, _, _, _, _, _, rfl, _⟩ := h; rfl)
      | (obtain ⟨_, _, _, _, _, _, _, _, _, _, _, _, _, _, _, _, _, rfl, _⟩ := h; rfl)
      | (obtain ⟨_, _, _, _, _, _, _, _, _, _, _, _, _, _, _, _, _, _, rfl, _⟩ := h; rfl)
      | (obtain ⟨_, _, _, _, _, _, _, _, _, _, _, _, _, _, _, _, _, _, _, rfl, _⟩ := h; rfl)
  · obtain ⟨Rw, c, cs, rfl, ld, ic, few, k⟩ := h
    obtain ⟨i, rfl, hi⟩ := getC_at ic
    refine ⟨_, (pss_one (ps_ret (pe_ix (k_ix (K := K) rfl) (pe_ix (k_ix (K := K) rfl) (d1 (ok_law_part T) (hr.mono (by decide)) (by rfl) T.m_law_part T.F_law_part.kp T.b_law_part passL (pa_cons (pv 0) (pa_cons (pv 1) (pa_cons (pe_op (k_add (K := K) rfl) (pv 1) pe_int) pa_nil)))) pe_int (fun _ _ => rfl)) pe_int (fun _ _ => rfl)))), ?_⟩
    dsimp only [cxOf, st_1, st_2, st_3, st_4, st_5, st_6, List.length_cons, List.length_nil, List.replicate_succ, List.replicate_zero, Nat.reduceAdd, Nat.reduceSub]
    walk_at "gs"
    refine ⟨Rw, i, i + 1, rle cs, rfl, ld.dp, by omega, fun f H1 hf k1 lf => ?_⟩
    rw [cut_at hi] at lf
    obtain ⟨us, hu, ha⟩ := lf
    cases ha
    rename_i x us hx hus
    cases hus
    obtain ⟨t, rfl, ht⟩ := dp_pair hx
    walk_at "gs"
    exact k H1 k1
/-- where a row that is led puts what -/
def leadC (w : Str) (a b : Int) (cs : List Int) : Option (Int × Int) :=
  if w = "from" then (if goalS cs b = -1 then none else some (a, getC cs (goalS cs b)))
  else (if goalS cs a = -1 then none else some (goalS cs a, getC cs b))
theorem leadS_C {w : Str} {a b : Int} {s : LS} : leadS w [a, b] s = (leadC w a b s.cs).map fun q => { s with cs := setC s.cs q.1 q.2 } := by
  unfold leadS leadC
  split
  · show (if goalS s.cs b = -1 then none else some { s with cs := setC s.cs a (getC s.cs (goalS s.cs b)) }) = _
    split
    · rfl
    · rfl
  · show (if goalS s.cs a = -1 then none else some { s with cs := setC s.cs (goalS s.cs a) (getC s.cs b) }) = _
    split
    · rfl
    · rfl
def sp_lled (K : PySem.W.Frag) : Sp := fun vs H Q _ => ∃ (Rw Th : Addr) (w : Str) (a b : Int) (cs : List Int), vs = [.ref Rw, .str w, .ref Th] ∧ LD K H Rw ((rle cs).map d2) ∧ SqT K H Th [.int a, .int b] ∧ (w = "from" ∨ w = "into") ∧ inC cs a ∧ inC cs b ∧ (rle cs).length ≤ 10000 ∧
  (leadC w a b cs = none → ∀ H', Kp [] H H' → Q .non H') ∧ ∀ x v, leadC w a b cs = some (x, v) → ∀ t H', Kp [] H H' → SqT K H' t [.int x, .int v] → Q (.ref t) H'
theorem sc_law_led : FnScope ["_law_row", "_law_word", "_law_things", "_law_goal", "_law_many", "_law_number"] ["_law_row", "_law_word", "_law_things"] (defScope s_law_led) :=
  ⟨rfl, rfl, rfl, by decide +kernel, rfl, by decide +kernel, by decide +kernel⟩
theorem ok_law_led {P : Program} {w : World} {K : PySem.W.Frag} {mg : Str → Option Value} {base : Heap} (T : Txt w K mg) :
    FnG P w K mg base 3 T.a_law_led T.d_law_led ["_law_row", "_law_word", "_law_things"] (sp_lled K) := by
  refine okD T.F_law_led sc_law_led (fun vs H Q E h => ?_) (fun cdv A outer s H vs Q E hr h => ?_)
  · first
      | (obtain ⟨_, rfl, _⟩ := h; rfl)
      | (obtain ⟨_, _, rfl, _⟩ := h; rfl)
      | (obtain ⟨_, _, _, rfl, _⟩ := h; rfl)
      | (obtain ⟨_, _, _, _, rfl, _⟩ := h; rfl)
      | (obtain ⟨_, _, _, _, _, rfl, _⟩ := h; rfl)
      | (obtain ⟨_, _, _, _, _, _, rfl, _⟩ := h; rfl)
      | (obtain ⟨_, _, _, _, _, _, _, rfl, _⟩ := h; rfl)
      | (obtain ⟨_, _, _, _, _, _, _, _, rfl, _⟩ := h; rfl)
      | (obtain ⟨_, _, _, _, _, _, _, _, _, rfl, _⟩ := h; rfl)
      | (obtain ⟨_, _, _, _, _, _, _, _, _, _, rfl, _⟩ := h; rfl)
      | (obtain ⟨_, _, _, _, _, _, _, _, _, _, _, rfl, _⟩ := h; rfl)
      | (obtain ⟨_, _, _, _, _, _, _, _, _, _, _, _, rfl, _⟩ := h; rfl)
      | (obtain ⟨_, _, _, _, _, _, _, _, _, _, _, _, _, rfl, _⟩ := h; rfl)
      | (obtain ⟨_, _, _, _, _, _, _, _, _, _, _, _, _, _, rfl, _⟩ := h; rfl)
      | (obtain ⟨_, _, _, _, _, _, _, _, _, _, _, _, _, _, _, rfl, _⟩ := h; rfl)
      | (obtain ⟨_, _, _, _, _, _, _, _, _, _, _, _, _, _, _, _, rfl, _⟩ := h; rfl)
      | (obtain ⟨_, _, _, _, _, _, _, _, _, _, _, _, _, _, _, _, _, rfl, _⟩ := h; rfl)
      | (obtain ⟨_, _, _, _, _, _, _, _, _, _, _, _, _, _, _, _, _, _, rfl, _⟩ := h; rfl)
      | (obtain ⟨_, _, _, _, _, _, _, _, _, _, _, _, _, _, _, _, _, _, _, rfl, _⟩ := h; rfl)
  · obtain ⟨Rw, Th, w, a, b, cs, rfl, ld, hT, hw, ia, ib, few, kN, kS⟩ := h
    have at0 : atI [V.int a, V.int b] 0 = some (.int a) := atI_nat (j := 0) rfl
    have at1 : atI [V.int a, V.int b] 1 = some (.int b) := atI_nat (j := 1) rfl
    refine ⟨_, (pss_cons (ps_set (i := 3) sc_law_led.nd rfl (Or.inl rfl) (d1 (ok_law_at T) (hr.mono (by decide)) (by rfl) T.m_law_at T.F_law_at.kp T.b_law_at passL (pa_cons (pv 0) (pa_cons (pe_ix (k_ix (K := K) rfl) (pv 2) (pe_callTy call_int1 (by rfl) T.n_int (by decide +kernel) (pa_cons (pe_cmpR (k_eq (K := K) rfl hr.r.units) (pv 1) pe_str (nomark _)) pa_nil)) (fun _ _ => rfl)) pa_nil))))
      (pss_cons (ps_if (pt_not (pt_chain op_le op_lt pe_int (pv 3) (pe_callB (k_sum (K := K) rfl rfl) (by rfl) T.n_sum (by decide +kernel) (pa_cons (pe_lc (own := [("_law_many", 4), ("_law_number", 5)]) (g := (gTup K 2 (gCons (gName 4) (gCons (gName 5) gNil)))) (tt := tYes) rfl sc_law_led.nd (k_plist (K := K) rfl (pv 0)) (blkOk_by (own := [("_law_many", 4), ("_law_number", 5)]) (N := ["_law_row", "_law_word", "_law_things", "_law_goal", "_law_many", "_law_number"]) (sc := defScope s_law_led) (by decide +kernel)) (fun _ _ _ _ _ => (k_gtup (K := K) 2 rfl rfl (pgs_cons (pg_name (i := 4) sc_law_led.nd rfl (Or.inl rfl)) (pgs_cons (pg_name (i := 5) sc_law_led.nd rfl (Or.inl rfl)) pgs_nil)))) (fun _ _ _ _ _ => pts_nil) (fun _ _ _ _ _ => (pv 4))) pa_nil)))) (pss_one (ps_ret pe_non)) pss_nil)
      (pss_one (ps_ret (pe_ifExp (pt_cmpR (k_eq (K := K) rfl hr.r.units) (pv 1) pe_str (nomark _)) (pe_tup (pa_cons (pe_ix (k_ix (K := K) rfl) (pv 2) pe_int (fun _ _ => rfl)) (pa_cons (d1 (ok_law_at T) (hr.mono (by decide)) (by rfl) T.m_law_at T.F_law_at.kp T.b_law_at passL (pa_cons (pv 0) (pa_cons (pv 3) pa_nil))) pa_nil))) (pe_tup (pa_cons (pv 3) (pa_cons (d1 (ok_law_at T) (hr.mono (by decide)) (by rfl) T.m_law_at T.F_law_at.kp T.b_law_at passL (pa_cons (pv 0) (pa_cons (pe_ix (k_ix (K := K) rfl) (pv 2) pe_int (fun _ _ => rfl)) pa_nil))) pa_nil)))))))), ?_⟩
    dsimp only [cxOf, st_1, st_2, st_3, st_4, st_5, st_6, List.length_cons, List.length_nil, List.replicate_succ, List.replicate_zero, Nat.reduceAdd, Nat.reduceSub]
    obtain ⟨rv, hrw, ar⟩ := id ld
    have lrv := dpa_len ar
    rw [List.length_map] at lrv
    walk_at "gs"
    refine .inr ⟨_, rfl, ?_⟩
    obtain ⟨gi, sel, eg, hat, isel, lg⟩ : ∃ gi sel : Int, (if decide (w = Str.ofString "from") = true then (1 : Int) else 0) = gi ∧ atI [V.int a, V.int b] gi = some (.int sel) ∧ inC cs sel ∧ leadC w a b cs = if goalS cs sel = -1 then none else some (if w = "from" then (a, getC cs (goalS cs sel)) else (goalS cs sel, getC cs b)) := by
      by_cases c : w = Str.ofString "from"
      · refine ⟨1, b, by rw [decide_eq_true c, if_pos rfl], at1, ib, ?_⟩
        unfold leadC
        rw [if_pos c, if_pos c]
      · refine ⟨0, a, by rw [decide_eq_false c, if_neg (by decide)], at0, ia, ?_⟩
        unfold leadC
        rw [if_neg c, if_neg c]
    rw [eg]
    walk_at "gs"
    refine ⟨Rw, sel, cs, rfl, ld, isel, few, fun H1 k1 => ?_⟩
    obtain ⟨g, egg⟩ : ∃ g, g = getC cs sel := ⟨_, rfl⟩
    rw [← egg]
    have gs : goalS cs sel = if 0 ≤ g ∧ g < cs.length then g else -1 := by
      unfold goalS
      rw [← egg]
    have no : ¬ (0 ≤ g ∧ g < cs.length) → leadC w a b cs = none := fun z => by rw [lg, gs, if_neg z, if_pos rfl]
    walk_at "gs"
    refine i_dec (fun g0 => ?_) (fun g0 => ?_)
    · have hr1 := k1.at_ _ _ hrw not_nil
      walk_at "gs"
      refine i_mapL (SqL.of hr1) (((rle cs).map (·.1)).map V.int) (by rw [List.length_map, List.length_map]; omega) (by omega) ?_ ?_
      · intro D i y z H' Q' fD hy hz k3 q
        obtain ⟨d, hd, hdp⟩ := dpa_getV ar hy
        obtain ⟨p, hp, rfl⟩ := map_get hd
        obtain ⟨t, rfl, hT⟩ := dp_pair (dp_imm (Kp.trans k1 k3) _ _ rfl hdp)
        rw [List.getElem?_map, List.getElem?_map, hp] at hz
        cases hz
        walk_at "gs"
        exact q H' Kp.refl
      intro D2 H2 fD2 k2 e2
      walk_at "gs"
      refine i_sum (SqL.of e2) ?_
      rw [show ((rle cs).map (·.1)).sum = cs.length from wide_rle cs]
      have k02 := Kp.trans k1 k2
      walk_at "gs"
      refine i_decN (fun g1 => ?_) (fun g1 => ?_)
      · walk_at "gs"
        exact kN (no fun z => g1 z.2) H2 k02
      have ig : inC cs g := ⟨g0, g1⟩
      have gs2 : goalS cs sel = g := by rw [gs, if_pos ⟨g0, g1⟩]
      have lg2 : leadC w a b cs = some (if w = "from" then (a, getC cs g) else (g, getC cs b)) := by
        rw [lg, gs2, if_neg (by omega)]
      have hT2 := k02.seqT hT
      have ld2 := ld.kp k02 (imms_d2 _) not_nil
      walk_at "gs"
      refine i_dec (fun cw => ?_) (fun cw => ?_)
      · walk_at "gs"
        refine ⟨Rw, g, cs, rfl, ld2, ig, few, fun H3 k3 => ?_⟩
        walk_at "gs"
        refine i_new fun t ft => ?_
        have kt : Kp [] H3 (upd H3 t (.tup [.int a, .int (getC cs g)])) := Kp.new ft
        exact kS a _ (by rw [lg2, if_pos cw]) t _ (Kp.trans (Kp.trans k02 k3) kt) (SqT.of upd_same)
      · walk_at "gs"
        refine ⟨Rw, b, cs, rfl, ld2, ib, few, fun H3 k3 => ?_⟩
        walk_at "gs"
        refine i_new fun t ft => ?_
        have kt : Kp [] H3 (upd H3 t (.tup [.int g, .int (getC cs b)])) := Kp.new ft
        exact kS g _ (by rw [lg2, if_neg cw]) t _ (Kp.trans (Kp.trans k02 k3) kt) (SqT.of upd_same)
    · walk_at "gs"
      exact kN (no fun z => g0 z.1) H1 k1
/-- which cell a row that puts puts, and what -/
def putC (w : Str) (ns : List Int) (cs : List Int) : Option (Int × Int) :=
  if w = "put" then some (ns.getD 0 0, ns.getD 1 0)
  else if w = "move" then some (ns.getD 0 0, getC cs (ns.getD 1 0))
  else if w = "add" then some (ns.getD 0 0, getC cs (ns.getD 0 0) + getC cs (ns.getD 1 0))
  else leadC w (ns.getD 0 0) (ns.getD 1 0) cs
def sp_lput (K : PySem.W.Frag) : Sp := fun vs H Q _ => ∃ (Rw Th : Addr) (w : Str) (ns cs : List Int) (many : Int), vs = [.ref Rw, .str w, .ref Th] ∧ LD K H Rw ((rle cs).map d2) ∧ SqT K H Th (ns.map V.int) ∧ (w = "put" ∨ w = "move" ∨ w = "add" ∨ w = "from" ∨ w = "into") ∧ rowOk (rowD (w, ns)) cs.length many = true ∧ (rle cs).length ≤ 10000 ∧
  (putC w ns cs = none → ∀ H', Kp [] H H' → Q .non H') ∧ ∀ x v, putC w ns cs = some (x, v) → ∀ t H', Kp [] H H' → SqT K H' t [.int x, .int v] → Q (.ref t) H'
theorem sc_law_put_there : FnScope ["_law_row", "_law_word", "_law_things"] ["_law_row", "_law_word", "_law_things"] (defScope s_law_put_there) :=
  ⟨rfl, rfl, rfl, by decide +kernel, rfl, by decide +kernel, by decide +kernel⟩
theorem ok_law_put_there {P : Program} {w : World} {K : PySem.W.Frag} {mg : Str → Option Value} {base : Heap} (T : Txt w K mg) :
    FnG P w K mg base 4 T.a_law_put_there T.d_law_put_there ["_law_row", "_law_word", "_law_things"] (sp_lput K) := by
  refine okD T.F_law_put_there sc_law_put_there (fun vs H Q E h => ?_) (fun cdv A outer s H vs Q E hr h => ?_)
  · first
      | (obtain ⟨_, rfl, _⟩ := h; rfl)
      | (obtain ⟨_, _, rfl, _⟩ := h; rfl)
      | (obtain ⟨_, _, _, rfl, _⟩ := h; rfl)
      | (obtain ⟨_, _, _, _, rfl, _⟩ := h; rfl)
      | (obtain ⟨_, _, _, _, _, rfl, _⟩ := h; rfl)
      | (obtain ⟨_, _, _, _, _, _, rfl, _⟩ := h; rfl)
      | (obtain ⟨_, _, _, _, _, _, _, rfl, _⟩ := h; rfl)
      | (obtain ⟨_, _, _, _, _, _, _, _, rfl, _⟩ := h; rfl)
      | (obtain ⟨_, _, _, _, _, _, _, _, _, rfl, _⟩ := h; rfl)
      | (obtain ⟨_, _, _, _, _, _, _, _, _, _, rfl, _⟩ := h; rfl)
      | (obtain ⟨_, _, _, _, _, _, _, _, _, _, _, rfl, _⟩ := h; rfl)
      | (obtain ⟨_, _, _, _, _, _, _, _, _, _, _, _, rfl, _⟩ := h; rfl)
      | (obtain ⟨_, _, _, _, _, _, _, _, _, _, _, _, _, rfl, _⟩ := h; rfl)
      | (obtain ⟨_, _, _, _, _, _, _, _, _, _, _, _, _, _, rfl, _⟩ := h; rfl)
      | (obtain ⟨_, _, _, _, _, _, _, _, _, _, _, _, _, _, _, rfl, _⟩ := h; rfl)
      | (obtain ⟨_, _, _, _, _, _, _, _, _, _, _, _, _, _, _, _, rfl, _⟩ := h; rfl)
      | (obtain ⟨_, _, _, _, _, _, _, _, _, _, _, _, _, _, _, _, _, rfl, _⟩ := h; rfl)
      | (obtain ⟨_, _, _, _, _, _, _, _, _, _, _, _, _, _, _, _, _, _, rfl, _⟩ := h; rfl)
      | (obtain ⟨_, _, _, _, _, _, _, _, _, _, _, _, _, _, _, _, _, _, _, rfl, _⟩ := h; rfl)
  · obtain ⟨Rw, Th, w, ns, cs, many, rfl, ld, hT, hw, ok, few, kN, kS⟩ := h
    refine ⟨_, (pss_cons (ps_if (pt_cmpR (k_eq (K := K) rfl hr.r.units) (pv 1) pe_str (nomark _)) (pss_one (ps_ret (pe_tup (pa_cons (pe_ix (k_ix (K := K) rfl) (pv 2) pe_int (fun _ _ => rfl)) (pa_cons (pe_ix (k_ix (K := K) rfl) (pv 2) pe_int (fun _ _ => rfl)) pa_nil))))) pss_nil)
      (pss_cons (ps_if (pt_cmpR (k_eq (K := K) rfl hr.r.units) (pv 1) pe_str (nomark _)) (pss_one (ps_ret (pe_tup (pa_cons (pe_ix (k_ix (K := K) rfl) (pv 2) pe_int (fun _ _ => rfl)) (pa_cons (d1 (ok_law_at T) (hr.mono (by decide)) (by rfl) T.m_law_at T.F_law_at.kp T.b_law_at passL (pa_cons (pv 0) (pa_cons (pe_ix (k_ix (K := K) rfl) (pv 2) pe_int (fun _ _ => rfl)) pa_nil))) pa_nil))))) pss_nil)
      (pss_cons (ps_if (pt_cmpR (k_eq (K := K) rfl hr.r.units) (pv 1) pe_str (nomark _)) (pss_one (ps_ret (pe_tup (pa_cons (pe_ix (k_ix (K := K) rfl) (pv 2) pe_int (fun _ _ => rfl)) (pa_cons (pe_op (k_add (K := K) rfl) (d1 (ok_law_at T) (hr.mono (by decide)) (by rfl) T.m_law_at T.F_law_at.kp T.b_law_at passL (pa_cons (pv 0) (pa_cons (pe_ix (k_ix (K := K) rfl) (pv 2) pe_int (fun _ _ => rfl)) pa_nil))) (d1 (ok_law_at T) (hr.mono (by decide)) (by rfl) T.m_law_at T.F_law_at.kp T.b_law_at passL (pa_cons (pv 0) (pa_cons (pe_ix (k_ix (K := K) rfl) (pv 2) pe_int (fun _ _ => rfl)) pa_nil)))) pa_nil))))) pss_nil)
      (pss_one (ps_ret (d1 (ok_law_led T) (hr.mono (by decide)) (by rfl) T.m_law_led T.F_law_led.kp T.b_law_led passL (pa_cons (pv 0) (pa_cons (pv 1) (pa_cons (pv 2) pa_nil))))))))), ?_⟩
    dsimp only [cxOf, st_1, st_2, st_3, st_4, st_5, st_6, List.length_cons, List.length_nil, List.replicate_succ, List.replicate_zero, Nat.reduceAdd, Nat.reduceSub]
    walk_at "gs"
    refine i_dec (fun c1 => ?_) (fun c1 => ?_)
    · subst c1
      obtain ⟨c, v, rfl, hc⟩ := inv_cn (by decide +kernel) ok
      have at0 : atI [V.int c, V.int v] 0 = some (.int c) := atI_nat (j := 0) rfl
      have at1 : atI [V.int c, V.int v] 1 = some (.int v) := atI_nat (j := 1) rfl
      have hT : SqT K H Th [V.int c, V.int v] := hT
      walk_at "gs"
      refine i_new fun t ft => ?_
      exact kS c v (by unfold putC; rw [if_pos rfl]; rfl) t _ (Kp.new ft) (SqT.of upd_same)
    walk_at "gs"
    refine i_dec (fun c2 => ?_) (fun c2 => ?_)
    · subst c2
      obtain ⟨c, d, rfl, hc, hd⟩ := inv_cc (by decide +kernel) ok
      have at0 : atI [V.int c, V.int d] 0 = some (.int c) := atI_nat (j := 0) rfl
      have at1 : atI [V.int c, V.int d] 1 = some (.int d) := atI_nat (j := 1) rfl
      have hT : SqT K H Th [V.int c, V.int d] := hT
      walk_at "gs"
      refine ⟨Rw, d, cs, rfl, ld, hd, few, fun H3 k3 => ?_⟩
      walk_at "gs"
      refine i_new fun t ft => ?_
      exact kS c (getC cs d) (by unfold putC; rw [if_neg c1, if_pos rfl]; rfl) t _ (Kp.trans k3 (Kp.new ft)) (SqT.of upd_same)
    walk_at "gs"
    refine i_dec (fun c3 => ?_) (fun c3 => ?_)
    · subst c3
      obtain ⟨c, d, rfl, hc, hd⟩ := inv_cc (by decide +kernel) ok
      have at0 : atI [V.int c, V.int d] 0 = some (.int c) := atI_nat (j := 0) rfl
      have at1 : atI [V.int c, V.int d] 1 = some (.int d) := atI_nat (j := 1) rfl
      have hT : SqT K H Th [V.int c, V.int d] := hT
      walk_at "gs"
      refine ⟨Rw, c, cs, rfl, ld, hc, few, fun H3 k3 => ?_⟩
      have hT3 := k3.seqT hT
      walk_at "gs"
      refine ⟨Rw, d, cs, rfl, ld.kp k3 (imms_d2 _) not_nil, hd, few, fun H4 k4 => ?_⟩
      walk_at "gs"
      refine i_new fun t ft => ?_
      exact kS c _ (by unfold putC; rw [if_neg c1, if_neg c2, if_pos rfl]; rfl) t _ (Kp.trans (Kp.trans k3 k4) (Kp.new ft)) (SqT.of upd_same)
    have hw2 : w = "from" ∨ w = "into" := by
      rcases hw with e | e | e | e
      · exact absurd e c1
      · exact absurd e c2
      · exact absurd e c3
      · exact e
    obtain ⟨c, d, rfl, hc, hd⟩ : ∃ c d, ns = [c, d] ∧ inC cs c ∧ inC cs d := by
      rcases hw2 with rfl | rfl
      · exact inv_cc (by decide +kernel) ok
      · exact inv_cc (by decide +kernel) ok
    have e : putC w [c, d] cs = leadC w c d cs := by
      unfold putC
      rw [if_neg c1, if_neg c2, if_neg c3]
      rfl
    rw [e] at kN
    rw [e] at kS
    walk_at "gs"
    exact ⟨Rw, Th, w, c, d, cs, rfl, ld, hT, hw2, hc, hd, few, kN, kS⟩

/-! ### a row done by the law's own -/
def doesS (w : Str) (ns : List Int) (s : LS) : Option LS := if w = "from" ∨ w = "into" then leadS w ns s else some (changeS w ns s)
theorem doesS_put {w : Str} {ns : List Int} {s : LS} {many : Int} (hw : w = "put" ∨ w = "move" ∨ w = "add" ∨ w = "from" ∨ w = "into") (ok : rowOk (rowD (w, ns)) s.cs.length many = true) : doesS w ns s = (putC w ns s.cs).map fun q => { s with cs := setC s.cs q.1 q.2 } := by
  unfold doesS
  have n1 : ¬ (Str.ofString "put" = Str.ofString "from" ∨ Str.ofString "put" = Str.ofString "into") := by decide +kernel
  have n2 : ¬ (Str.ofString "move" = Str.ofString "from" ∨ Str.ofString "move" = Str.ofString "into") := by decide +kernel
  have n3 : ¬ (Str.ofString "add" = Str.ofString "from" ∨ Str.ofString "add" = Str.ofString "into") := by decide +kernel
  have m1 : ¬ (Str.ofString "move" = Str.ofString "put") := by decide +kernel
  have m2 : ¬ (Str.ofString "add" = Str.ofString "put") := by decide +kernel
  have m3 : ¬ (Str.ofString "add" = Str.ofString "move") := by decide +kernel
  rcases hw with rfl | rfl | rfl | hw
  · rw [if_neg n1]
    unfold changeS putC
    rw [if_pos rfl, if_pos rfl]
    rfl
  · rw [if_neg n2]
    unfold changeS putC
    rw [if_neg m1, if_pos rfl, if_neg m1, if_pos rfl]
    rfl
  · rw [if_neg n3]
    unfold changeS putC
    rw [if_neg m2, if_neg m3, if_pos rfl, if_neg m2, if_neg m3, if_pos rfl]
    rfl
  · rw [if_pos hw]
    obtain ⟨c, d, rfl, hc, hd⟩ : ∃ c d, ns = [c, d] ∧ inC s.cs c ∧ inC s.cs d := by
      rcases hw with rfl | rfl
      · exact inv_cc (by decide +kernel) ok
      · exact inv_cc (by decide +kernel) ok
    rw [leadS_C]
    unfold putC
    rcases hw with rfl | rfl
    · rw [if_neg (by decide +kernel), if_neg (by decide +kernel), if_neg (by decide +kernel)]
      rfl
    · rw [if_neg (by decide +kernel), if_neg (by decide +kernel), if_neg (by decide +kernel)]
      rfl
/-- what is put lies among the cells -/
theorem putC_in {w : Str} {ns cs : List Int} {many x v : Int} (hw : w = "put" ∨ w = "move" ∨ w = "add" ∨ w = "from" ∨ w = "into") (ok : rowOk (rowD (w, ns)) cs.length many = true) (e : putC w ns cs = some (x, v)) : inC cs x := by
  have lc : ∀ a b, inC cs a → leadC w a b cs = some (x, v) → inC cs x := fun a b ia h => by
    unfold leadC at h
    split at h
    · split at h
      · cases h
      · cases h
        exact ia
    · split at h
      · cases h
      · rename_i g
        cases h
        exact goal_in g
  unfold putC at e
  split at e
  · rename_i c
    subst c
    obtain ⟨c, v, rfl, hc⟩ := inv_cn (by decide +kernel) ok
    cases e
    exact hc
  split at e
  · rename_i c
    subst c
    obtain ⟨c, v, rfl, hc, _⟩ := inv_cc (by decide +kernel) ok
    cases e
    exact hc
  split at e
  · rename_i c
    subst c
    obtain ⟨c, v, rfl, hc, _⟩ := inv_cc (by decide +kernel) ok
    cases e
    exact hc
  rename_i c1 c2 c3
  have hw2 : w = "from" ∨ w = "into" := by
    rcases hw with e | e | e | e
    · exact absurd e c1
    · exact absurd e c2
    · exact absurd e c3
    · exact e
  obtain ⟨c, d, rfl, hc, hd⟩ : ∃ c d, ns = [c, d] ∧ inC cs c ∧ inC cs d := by
    rcases hw2 with rfl | rfl
    · exact inv_cc (by decide +kernel) ok
    · exact inv_cc (by decide +kernel) ok
  exact lc c d hc e
def own2 (d Td : Addr) : List Addr := [d, Td]
theorem own2_d {d Td : Addr} : ∀ b ∈ [d], b ∈ own2 d Td := fun b h => by
  rw [List.mem_singleton.mp h]
  exact List.mem_cons_self
theorem own2_t {d Td : Addr} : ∀ b ∈ [Td], b ∈ own2 d Td := fun b h => by
  rw [List.mem_singleton.mp h]
  exact List.mem_cons_of_mem _ List.mem_cons_self
def Does (w : Str) : Prop := w = "tell" ∨ w = "fill" ∨ w = "put" ∨ w = "move" ∨ w = "add" ∨ w = "from" ∨ w = "into"
def sp_ldoes (K : PySem.W.Frag) : Sp := fun vs H Q _ => ∃ (d Rw Td Th : Addr) (pt : Str) (po : Option Int) (s : LS) (w : Str) (ns : List Int) (many : Int), vs = [.ref d, .str w, .ref Th] ∧ OneAt K H d Rw Td pt po s ∧ SqT K H Th (ns.map V.int) ∧ Does w ∧ rowOk (rowD (w, ns)) s.cs.length many = true ∧ (rle s.cs).length ≤ 9990 ∧ s.told.length ≤ 9990 ∧
  (doesS w ns s = none → ∀ H', Kp [] H H' → Q (.bl false) H') ∧ ∀ s', doesS w ns s = some s' → ∀ Rw' H', Kp (own2 d Td) H H' → OneAt K H' d Rw' Td pt po s' → Q (.bl true) H'
theorem sc_law_does : FnScope ["_law_one", "_law_word", "_law_things", "_law_row", "_law_part_here", "_law_found"] ["_law_one", "_law_word", "_law_things"] (defScope s_law_does) :=
  ⟨rfl, rfl, rfl, by decide +kernel, rfl, by decide +kernel, by decide +kernel⟩
theorem ok_law_does {P : Program} {w : World} {K : PySem.W.Frag} {mg : Str → Option Value} {base : Heap} (T : Txt w K mg) :
    FnG P w K mg base 5 T.a_law_does T.d_law_does ["_law_one", "_law_word", "_law_things"] (sp_ldoes K) := by
  refine okD T.F_law_does sc_law_does (fun vs H Q E h => ?_) (fun cdv A outer s H vs Q E hr h => ?_)
  · first
      | (obtain ⟨_, rfl, _⟩ := h; rfl)
      | (obtain ⟨_, _, rfl, _⟩ := h; rfl)
      | (obtain ⟨_, _, _, rfl, _⟩ := h; rfl)
      | (obtain ⟨_, _, _, _, rfl, _⟩ := h; rfl)
      | (obtain ⟨_, _, _, _, _, rfl, _⟩ := h; rfl)
      | (obtain ⟨_, _, _, _, _, _, rfl, _⟩ := h; rfl)
      | (obtain ⟨_, _, _, _, _, _, _, rfl, _⟩ := h; rfl)
      | (obtain ⟨_, _, _, _, _, _, _, _, rfl, _⟩ := h; rfl)
      | (obtain ⟨_, _, _, _, _, _, _, _, _, rfl, _⟩ := h; rfl)
      | (obtain ⟨_, _, _, _, _, _, _, _, _, _, rfl, _⟩ := h; rfl)
      | (obtain ⟨_, _, _, _, _, _, _, _, _, _, _, rfl, _⟩ := h; rfl)
      | (obtain ⟨_, _, _, _, _, _, _, _, _, _, _, _, rfl, _⟩ := h; rfl)
      | (obtain ⟨_, _, _, _, _, _, _, _, _, _, _, _, _, rfl, _⟩ := h; rfl)
      | (obtain ⟨_, _, _, _, _, _, _, _, _, _, _, _, _, _, rfl, _⟩ := h; rfl)
      | (obtain ⟨_, _, _, _, _, _, _, _, _, _, _, _, _, _, _, rfl, _⟩ := h; rfl)
      | (obtain ⟨_, _, _, _, _, _, _, _, _, _, _, _, _, _, _, _, rfl, _⟩ := h; rfl)
      | (obtain ⟨_, _, _, _, _, _, _, _, _, _, _, _, _, _, _, _, _, rfl, _⟩ := h; rfl)
      | (obtain ⟨_, _, _, _, _, _, _, _, _, _, _, _, _, _, _, _, _, _, rfl, _⟩ := h; rfl)
      | (obtain ⟨_, _, _, _, _, _, _, _, _, _, _, _, _, _, _, _, _, _, _, rfl, _⟩ := h; rfl)
  · obtain ⟨d, Rw, Td, Th, pt, po, s, w, ns, many, rfl, O, hT, hw, ok, few, tf, kN, kS⟩ := h
    have hd := O.hd
    have cl_Memory := T.cl_Memory
    have na_Memory_pairs := T.na_Memory_pairs
    have na_Memory_wide := T.na_Memory_wide
    have cl_Lone := T.cl_Lone
    have na_Lone_all_rows := T.na_Lone_all_rows
    have na_Lone_cells := T.na_Lone_cells
    have na_Lone_next_row := T.na_Lone_next_row
    have na_Lone_numbers := T.na_Lone_numbers
    have na_Lone_rested := T.na_Lone_rested
    have cl_Program := T.cl_Program
    have na_Program_own_rows := T.na_Program_own_rows
    have na_Program_own_size := T.na_Program_own_size
    refine ⟨_, (pss_cons (ps_set (i := 3) sc_law_does.nd rfl (Or.inl rfl) (pe_dget (u1 hr.r.units) (pv 0) pe_str (fun _ _ => rfl)))
      (pss_cons (ps_if (pt_cmpR (k_eq (K := K) rfl hr.r.units) (pv 1) pe_str (nomark _)) (pss_one (ps_expr (pe_bm PySem.F.plainAttrs_list PySem.F.slot_list_append PySem.F.type_list_append mt_append (pe_dget (u1 hr.r.units) (pv 0) pe_str (fun _ _ => rfl)) (pa_cons (d1 (ok_law_at T) (hr.mono (by decide)) (by rfl) T.m_law_at T.F_law_at.kp T.b_law_at passL (pa_cons (pv 3) (pa_cons (pe_ix (k_ix (K := K) rfl) (pv 2) pe_int (fun _ _ => rfl)) pa_nil))) pa_nil)))) (pss_one (ps_if (pt_cmpR (k_eq (K := K) rfl hr.r.units) (pv 1) pe_str (nomark _)) (pss_cons (ps_set (i := 4) sc_law_does.nd rfl (Or.inl rfl) (pe_ifExp (pt_cmpR op_lt (pe_ix (k_ix (K := K) rfl) (pv 2) pe_int (fun _ _ => rfl)) (pe_ix (k_ix (K := K) rfl) (pv 2) pe_int (fun _ _ => rfl)) (nomark _)) (pe_lst (pa_cons (pe_tup (pa_cons (pe_op op_sub (pe_ix (k_ix (K := K) rfl) (pv 2) pe_int (fun _ _ => rfl)) (pe_ix (k_ix (K := K) rfl) (pv 2) pe_int (fun _ _ => rfl))) (pa_cons (d1 (ok_law_at T) (hr.mono (by decide)) (by rfl) T.m_law_at T.F_law_at.kp T.b_law_at passL (pa_cons (pv 3) (pa_cons (pe_ix (k_ix (K := K) rfl) (pv 2) pe_int (fun _ _ => rfl)) pa_nil))) pa_nil))) pa_nil)) (pe_lst pa_nil)))
      (pss_one (ps_asg (d1 (ok_law_with T) (hr.mono (by decide)) (by rfl) T.m_law_with T.F_law_with.kp T.b_law_with passL (pa_cons (pv 3) (pa_cons (pe_ix (k_ix (K := K) rfl) (pv 2) pe_int (fun _ _ => rfl)) (pa_cons (pv 4) pa_nil)))) (pg_sub (pv 0) pe_str (set_dict (u1 hr.r.units)))))) (pss_cons (ps_set (i := 5) sc_law_does.nd rfl (Or.inl rfl) (d1 (ok_law_put_there T) (hr.mono (by decide)) (by rfl) T.m_law_put_there T.F_law_put_there.kp T.b_law_put_there passL (pa_cons (pv 3) (pa_cons (pv 1) (pa_cons (pv 2) pa_nil)))))
      (pss_cons (ps_if (pt_cmpR op_isN1 (pv 5) pe_non (nomark _)) (pss_one (ps_ret pe_bl)) pss_nil)
      (pss_one (ps_asg (d1 (ok_law_with T) (hr.mono (by decide)) (by rfl) T.m_law_with T.F_law_with.kp T.b_law_with passL (pa_cons (pv 3) (pa_cons (pe_ix (k_ix (K := K) rfl) (pv 5) pe_int (fun _ _ => rfl)) (pa_cons (pe_lst (pa_cons (pe_tup (pa_cons pe_int (pa_cons (pe_ix (k_ix (K := K) rfl) (pv 5) pe_int (fun _ _ => rfl)) pa_nil))) pa_nil)) pa_nil)))) (pg_sub (pv 0) pe_str (set_dict (u1 hr.r.units))))))))))
      (pss_one (ps_ret pe_bl)))), ?_⟩
    dsimp only [cxOf, st_1, st_2, st_3, st_4, st_5, st_6, List.length_cons, List.length_nil, List.replicate_succ, List.replicate_zero, Nat.reduceAdd, Nat.reduceSub]
    walk_at "gs"
    refine i_dgS hd val_row ?_
    walk_at "gs"
    refine i_dec (fun c1 => ?_) (fun c1 => ?_)
    · subst c1
      obtain ⟨c, rfl, hc⟩ := inv_c (by decide +kernel) ok
      have at0 : atI [V.int c] 0 = some (.int c) := atI_nat (j := 0) rfl
      have hT : SqT K H Th [V.int c] := hT
      walk_at "gs"
      refine i_dgS hd val_told ?_
      have hTd := O.told
      walk_at "gs"
      refine ⟨Rw, c, s.cs, rfl, O.row, hc, by omega, fun H1 k1 => ?_⟩
      have O1 := O.kp0 k1
      have hT1 := O1.told
      walk_at "gs"
      refine i_app hT1 (small_sz (by rw [List.length_map]; omega)) ?_
      walk_at "gs"
      have kA : Kp [Td] H1 (upd H1 Td (.lst (s.told.map V.int ++ [V.int (getC s.cs c)]))) := kp_set hT1 (fun z => z)
      refine kS { s with told := s.told ++ [getC s.cs c] } ?_ Rw _ (Kp.trans k1.wide (kA.mono own2_t)) ⟨kA.at_ _ _ O1.hd (not_one (Ne.symm O.nT)), O1.row.kp kA (imms_d2 _) (not_one O.ne), ?_, O.ne⟩
      · unfold doesS changeS
        rw [if_neg (by decide +kernel), if_neg (by decide +kernel), if_neg (by decide +kernel), if_neg (by decide +kernel), if_neg (by decide +kernel), if_pos rfl]
        rfl
      · rw [List.map_append]
        exact upd_same
    have wr : ∀ (H2 : Hp) (l : Addr) (s' : LS), Kp [] H H2 → LD K H2 l ((rle s'.cs).map d2) → s'.told = s.told → s'.rest = s.rest → doesS w ns s = some s' → l ≠ Td → Q (.bl true) (upd H2 d (.dK (oneD pt l Td s.rest po))) := by
      intro H2 l s' k2 ll et er e ne
      have hd2 := k2.at_ _ _ hd not_nil
      have kA : Kp [d] H2 (upd H2 d (.dK (oneD pt l Td s.rest po))) := kp_dK hd2
      have nl : l ≠ d := fun e => by
        obtain ⟨vs, h1, _⟩ := ll
        rw [e, hd2] at h1
        cases h1
      refine kS s' e l _ (Kp.trans k2.wide (kA.mono own2_d)) ⟨?_, ll.kp kA (imms_d2 _) (not_one nl), ?_, ne⟩
      · rw [er]
        exact upd_same
      · rw [et]
        exact kA.at_ _ _ (k2.at_ _ _ O.told not_nil) (not_one O.nT)
    walk_at "gs"
    refine i_dec (fun c2 => ?_) (fun c2 => ?_)
    · subst c2
      obtain ⟨b, f, c, rfl, hb, bf, hf, hc⟩ := inv_bec ok
      have at0 : atI [V.int b, V.int f, V.int c] 0 = some (.int b) := atI_nat (j := 0) rfl
      have at1 : atI [V.int b, V.int f, V.int c] 1 = some (.int f) := atI_nat (j := 1) rfl
      have at2 : atI [V.int b, V.int f, V.int c] 2 = some (.int c) := atI_nat (j := 2) rfl
      have hT : SqT K H Th [V.int b, V.int f, V.int c] := hT
      have e : doesS (Str.ofString "fill") [b, f, c] s = some { s with cs := fillC s.cs b f (getC s.cs c) } := by
        unfold doesS changeS
        rw [if_neg (by decide +kernel), if_neg (by decide +kernel), if_neg (by decide +kernel), if_neg (by decide +kernel), if_pos rfl]
        rfl
      walk_at "gs"
      refine i_dec (fun cb => ?_) (fun cb => ?_)
      · walk_at "gs"
        refine ⟨Rw, c, s.cs, rfl, O.row, hc, by omega, fun H1 k1 => ?_⟩
        have O1 := O.kp0 k1
        have hT1 := k1.seqT hT
        walk_at "gs"
        refine i_new fun t ft => ?_
        have kt : Kp [] H1 (upd H1 t (.tup [.int (f - b), .int (getC s.cs c)])) := Kp.new ft
        have ht : (upd H1 t (.tup [.int (f - b), .int (getC s.cs c)])) t = some (.tup [.int (f - b), .int (getC s.cs c)]) := upd_same
        obtain ⟨H2, e2⟩ : ∃ H2, H2 = upd H1 t (.tup [.int (f - b), .int (getC s.cs c)]) := ⟨_, rfl⟩
        rw [← e2] at kt ht ⊢
        walk_at "gs"
        refine i_new fun L fL => ?_
        have kL : Kp [] H2 (upd H2 L (.lst [V.ref t])) := Kp.new fL
        have lL : LD K (upd H2 L (.lst [V.ref t])) L ([(f - b, getC s.cs c)].map d2) := ⟨_, upd_same, dpa_one (dp_mk2 (a := t) (m := f - b) (n := getC s.cs c) (SqT.of (kL.fix _ _ ht trivial)))⟩
        have k03 := Kp.trans k1 (Kp.trans kt kL)
        have O3 := O.kp0 k03
        have hT3 := k03.seqT hT
        walk_at "gs"
        refine ⟨Rw, L, b, s.cs, [(f - b, getC s.cs c)], rfl, O3.row, lL, by omega, by show 1 ≤ 10000; decide, fun q hq => by rw [List.mem_singleton.mp hq]; show 0 < f - b; omega, fun l H4 fl k4 ll => ?_⟩
        have k04 := Kp.trans k03 k4
        walk_at "gs"
        refine i_setS (k04.at_ _ _ hd not_nil) oneD_len ?_
        rw [put_row]
        walk_at "gs"
        refine wr H4 l { s with cs := fillC s.cs b f (getC s.cs c) } k04 ?_ rfl rfl e (fr_ne O3.told fl).symm
        have w1 : (b + wide [(f - b, getC s.cs c)]) = f := by
          show b + ((f - b) + 0) = f
          omega
        rw [w1] at ll
        have c1 : cells [(f - b, getC s.cs c)] = List.replicate (f - b).toNat (getC s.cs c) := by rw [cells_cons, cells_nil, List.append_nil]
        rw [c1] at ll
        exact ll
      · walk_at "gs"
        refine i_new fun L fL => ?_
        have kL : Kp [] H (upd H L (.lst [])) := Kp.new fL
        have lL : LD K (upd H L (.lst [])) L (([] : List (Int × Int)).map d2) := ⟨_, upd_same, .nil⟩
        have O3 := O.kp0 kL
        have hT3 := kL.seqT hT
        walk_at "gs"
        refine ⟨Rw, L, b, s.cs, [], rfl, O3.row, lL, by omega, by show 0 ≤ 10000; decide, fun q hq => (by cases hq), fun l H4 fl k4 ll => ?_⟩
        have k04 := Kp.trans kL k4
        walk_at "gs"
        refine i_setS (k04.at_ _ _ hd not_nil) oneD_len ?_
        rw [put_row]
        walk_at "gs"
        refine wr H4 l { s with cs := fillC s.cs b f (getC s.cs c) } k04 ?_ rfl rfl e (fr_ne O3.told fl).symm
        have ef : f = b := by omega
        have c1 : fillC s.cs b f (getC s.cs c) = laid s.cs b.toNat (cells []) (b + wide []).toNat := by
          unfold fillC
          rw [ef, show (b - b).toNat = 0 by omega, show b + wide [] = b by show b + 0 = b; omega]
          rfl
        show LD K H4 l ((rle (fillC s.cs b f (getC s.cs c))).map d2)
        rw [c1]
        exact ll
    have hw2 : w = "put" ∨ w = "move" ∨ w = "add" ∨ w = "from" ∨ w = "into" := by
      rcases hw with e | e | e
      · exact absurd e c1
      · exact absurd e c2
      · exact e
    walk_at "gs"
    refine ⟨Rw, Th, w, ns, s.cs, many, rfl, O.row, hT, hw2, ok, by omega, fun e H1 k1 => ?_, fun x v e t H1 k1 ht => ?_⟩
    · walk_at "gs"
      exact kN (by rw [doesS_put hw2 ok, e]; rfl) H1 k1
    · have at0 : atI [V.int x, V.int v] 0 = some (.int x) := atI_nat (j := 0) rfl
      have at1 : atI [V.int x, V.int v] 1 = some (.int v) := atI_nat (j := 1) rfl
      have O1 := O.kp0 k1
      walk_at "gs"
      refine i_new fun t2 ft2 => ?_
      have kt : Kp [] H1 (upd H1 t2 (.tup [.int 1, .int v])) := Kp.new ft2
      have ht2 : (upd H1 t2 (.tup [.int 1, .int v])) t2 = some (.tup [.int 1, .int v]) := upd_same
      obtain ⟨H2, e2⟩ : ∃ H2, H2 = upd H1 t2 (.tup [.int 1, .int v]) := ⟨_, rfl⟩
      rw [← e2] at kt ht2 ⊢
      walk_at "gs"
      refine i_new fun L fL => ?_
      have kL : Kp [] H2 (upd H2 L (.lst [V.ref t2])) := Kp.new fL
      have lL : LD K (upd H2 L (.lst [V.ref t2])) L ([((1 : Int), v)].map d2) := ⟨_, upd_same, dpa_one (dp_mk2 (a := t2) (m := 1) (n := v) (SqT.of (kL.fix _ _ ht2 trivial)))⟩
      have k03 := Kp.trans k1 (Kp.trans kt kL)
      have O3 := O.kp0 k03
      walk_at "gs"
      have ic : inC s.cs x := putC_in hw2 ok e
      have ic0 := ic.1
      have ic1 := ic.2
      refine ⟨Rw, L, x, s.cs, [(1, v)], rfl, O3.row, lL, by omega, by show 1 ≤ 10000; decide, fun q hq => by rw [List.mem_singleton.mp hq]; show (0 : Int) < 1; decide, fun l H4 fl k4 ll => ?_⟩
      have k04 := Kp.trans k03 k4
      walk_at "gs"
      refine i_setS (k04.at_ _ _ hd not_nil) oneD_len ?_
      rw [put_row]
      walk_at "gs"
      exact wr H4 l { s with cs := setC s.cs x v } k04 ll rfl rfl (by rw [doesS_put hw2 ok, e]; rfl) (fr_ne O3.told fl).symm

/-! ### one turn of the law's own -/
/-- no row that says done is next -/
def ND (rs : List (Str × List Int)) (s : LS) : Prop := s.rest = "" → ∀ r, rowAt rs s = some r → r.1 ≠ "done"
section
variable {rs : List (Str × List Int)} {s : LS} {pl : Nat}
theorem nd_come : ND rs (comeTo rs pl s) := by
  intro r q hq
  unfold comeTo at r hq
  have nd : ¬ (Str.ofString "done" = Str.ofString "") := by decide +kernel
  split at r
  · exact absurd r nd
  · rename_i q2 e2
    split at r
    · exact absurd r nd
    · rename_i nq
      simp only [e2, if_neg nq] at hq
      unfold rowAt at hq
      rw [if_neg (by show ¬ ((pl : Int) = -1); omega)] at hq
      simp only [Int.toNat_natCast, e2] at hq
      cases hq
      exact nq
theorem come_place (r : (comeTo rs pl s).rest = "") : (pl : Int) = (comeTo rs pl s).place := by
  unfold comeTo at r ⊢
  have nd : ¬ (Str.ofString "done" = Str.ofString "") := by decide +kernel
  split at r
  · exact absurd r nd
  · split at r
    · exact absurd r nd
    · rename_i nq
      simp only [if_neg nq]
theorem nd_fail : ND rs (failS s) := fun r => by
  have nd : ¬ (Str.ofString "failed" = Str.ofString "") := by decide +kernel
  exact absurd r nd
theorem nd_next {zs : List Nat} {r : Str × List Int} (er : rowAt rs s = some r) : ND rs (nextS rs s zs) := by
  unfold nextS
  split
  · split
    · unfold youngS
      rw [er]
      exact nd_come
    · exact nd_come
  · rw [stepS_row er]
    split
    · exact nd_come
    split
    · exact nd_fail
    split
    · split
      · exact nd_fail
      · exact nd_come
    · exact nd_come
end
theorem i_slT1 {K : PySem.W.Frag} {H : Hp} {Q : VK} {a : Addr} {x : V} {l : List V} (h : SqT K H a (x :: l)) (q : New H fun p => Q (.ref p) (upd H p (.tup l))) : rSlT K (.ref a) (some 1) none H Q := by
  have e : cutV (x :: l) (some ((1 : Nat) : Int)) none = (x :: l).drop 1 := cutV_from (by rw [List.length_cons]; omega)
  refine ⟨a, _, rfl, h, fun z => ?_, fun p hp => ?_⟩
  · have := z.1
    unfold HT.sIx at this
    rw [List.length_cons] at this
    simp at this
  · have e2 : cutV (x :: l) (some 1) none = l := e
    rw [e2]
    exact q p hp
def sp_lturn (K : PySem.W.Frag) : Sp := fun vs H Q _ => ∃ (F d Rw Td : Addr) (xs : List V) (rs : List (Str × List Int)) (pt : Str) (s : LS) (i : Nat), vs = [.ref F, .ref d] ∧ OneAt K H d Rw Td pt (some (i : Int)) s ∧ H F = some (.lst xs) ∧ F ≠ Td ∧ RwAt H xs rs ∧ s.place = i ∧ s.rest = "" ∧ i < rs.length ∧ rs.length ≤ 1000 ∧ (∀ r ∈ rs, SeqAt.shaped (rowD r) = true ∧ (r.1 = "done" → r.2 = []) ∧ rowOk (rowD r) s.cs.length rs.length = true) ∧ ND rs s ∧
  (rle s.cs).length ≤ 9990 ∧ s.told.length ≤ 9990 ∧ pt.length ≤ 100000 ∧
  (atFork rs s = true → ∀ d2 Rw2 Td2 pt1 pt2 po1 po2 H', Fr H d2 → Fr H Td2 → Kp [d] H H' → OneAt K H' d Rw Td pt1 (some po1) (elderS rs s) → OneAt K H' d2 Rw2 Td2 pt2 (some po2) (youngS rs s) → pt1.length ≤ pt.length + 1 → pt2.length ≤ pt.length + 1 → ((elderS rs s).rest = "" → po1 = (elderS rs s).place) → ((youngS rs s).rest = "" → po2 = (youngS rs s).place) → Q (.ref d2) H') ∧
  (atFork rs s = false → ∀ Rw' po H', Kp (own2 d Td) H H' → OneAt K H' d Rw' Td pt (some po) (stepS rs s) → ((stepS rs s).rest = "" → po = (stepS rs s).place) → Q .non H')
theorem sc_law_turn : FnScope ["_law_rows", "_law_one", "_law_row", "_law_onward", "_law_word", "_law_things", "_law_other", "_law_first", "_law_second", "_law_goes"] ["_law_rows", "_law_one"] (defScope s_law_turn) :=
  ⟨rfl, rfl, rfl, by decide +kernel, rfl, by decide +kernel, by decide +kernel⟩
theorem ok_law_turn {P : Program} {w : World} {K : PySem.W.Frag} {mg : Str → Option Value} {base : Heap} (T : Txt w K mg) :
    FnG P w K mg base 6 T.a_law_turn T.d_law_turn ["_law_rows", "_law_one"] (sp_lturn K) := by
  refine okD T.F_law_turn sc_law_turn (fun vs H Q E h => ?_) (fun cdv A outer s H vs Q E hr h => ?_)
  · first
      | (obtain ⟨_, rfl, _⟩ := h; rfl)
      | (obtain ⟨_, _, rfl, _⟩ := h; rfl)
      | (obtain ⟨_, _, _, rfl, _⟩ := h; rfl)
      | (obtain ⟨_, _, _, _, rfl, _⟩ := h; rfl)
      | (obtain ⟨_, _, _, _, _, rfl, _⟩ := h; rfl)
      | (obtain ⟨_, _, _, _, _, _, rfl, _⟩ := h; rfl)
      | (obtain ⟨_, _, _, _, _, _, _, rfl, _⟩ := h; rfl)
      | (obtain ⟨_, _, _, _, _, _, _, _, rfl, _⟩ := h; rfl)
      | (obtain ⟨_, _, _, _, _, _, _, _, _, rfl, _⟩ := h; rfl)
      | (obtain ⟨_, _, _, _, _, _, _, _, _, _, rfl, _⟩ := h; rfl)
      | (obtain ⟨_, _, _, _, _, _, _, _, _, _, _, rfl, _⟩ := h; rfl)
      | (obtain ⟨_, _, _, _, _, _, _, _, _, _, _, _, rfl, _⟩ := h; rfl)
      | (obtain ⟨_, _, _, _, _, _, _, _, _, _, _, _, _, rfl, _⟩ := h; rfl)
      | (obtain ⟨_, _, _, _, _, _, _, _, _, _, _, _, _, _, rfl, _⟩ := h; rfl)
      | (obtain ⟨_, _, _, _, _, _, _, _, _, _, _, _, _, _, _, rfl, _⟩ := h; rfl)
      | (obtain ⟨_, _, _, _, _, _, _, _, _, _, _, _, _, _, _, _, rfl, _⟩ := h; rfl)
      | (obtain ⟨_, _, _, _, _, _, _, _, _, _, _, _, _, _, _, _, _, rfl, _⟩ := h; rfl)
      | (obtain ⟨_, _, _, _, _, _, _, _, _, _, _, _, _, _, _, _, _, _, rfl, _⟩ := h; rfl)
      | (obtain ⟨_, _, _, _, _, _, _, _, _, _, _, _, _, _, _, _, _, _, _, rfl, _⟩ := h; rfl)
  · obtain ⟨F, d, Rw, Td, xs, rs, pt, s, i, rfl, O, hF, nFT, rw0, ei, re, hi, lr, ok, nd, few, tf, lp, kF, kS⟩ := h
    have hd := O.hd
    have lx := rw0.1
    have nF : F ≠ d := fun e => by
      rw [e, hd] at hF
      cases hF
    obtain ⟨r, hrr⟩ : ∃ r, rs[i]? = some r := ⟨_, List.getElem?_eq_getElem hi⟩
    have hrm := List.mem_of_getElem? hrr
    have er : rowAt rs s = some r := by
      unfold rowAt
      rw [if_neg (by rw [ei]; omega), ei, Int.toNat_natCast, hrr]
    obtain ⟨x, hx⟩ : ∃ x, xs[i]? = some x := ⟨_, List.getElem?_eq_getElem (by omega)⟩
    obtain ⟨tr, rfl, htr⟩ := rw0.2 i x r hx hrr
    have hat : atI xs (i : Int) = some (.ref tr) := atI_nat hx
    obtain ⟨w, ns⟩ := r
    obtain ⟨shr, dnr, okr⟩ := ok (w, ns) hrm
    have ndw : w ≠ "done" := nd re _ er
    have at0 : atI (V.str w :: ns.map V.int) 0 = some (.str w) := at_zero
    refine ⟨_, (pss_cons (ps_par (i := 2) (j := 3) (by rfl) sc_law_turn.nd rfl rfl (by decide) rfl rfl (pa_cons (pe_ix (k_ix (K := K) rfl) (pv 0) (pe_dget (u1 hr.r.units) (pv 1) pe_str (fun _ _ => rfl)) (fun _ _ => rfl)) (pa_cons (pe_op (k_add (K := K) rfl) (pe_dget (u1 hr.r.units) (pv 1) pe_str (fun _ _ => rfl)) pe_int) pa_nil)) (by rfl))
      (pss_cons (ps_par (i := 4) (j := 5) (by rfl) sc_law_turn.nd rfl rfl (by decide) rfl rfl (pa_cons (pe_ix (k_ix (K := K) rfl) (pv 2) pe_int (fun _ _ => rfl)) (pa_cons (pe_slice (k_slT (K := K) rfl) (pv 2) (po_some pe_int) po_none) pa_nil)) (by rfl))
      (pss_cons (ps_if (pt_cmpR (k_eq (K := K) rfl hr.r.units) (pv 4) pe_str (nomark _)) (pss_cons (ps_set (i := 6) sc_law_turn.nd rfl (Or.inl rfl) (pe_disp (pps_cons pe_str (pe_op (k_add (K := K) rfl) (pe_dget (u1 hr.r.units) (pv 1) pe_str (fun _ _ => rfl)) pe_str) (pps_cons pe_str (pe_callTy (k_list (K := K) rfl) (by rfl) T.n_list (by decide +kernel) (pa_cons (pe_dget (u1 hr.r.units) (pv 1) pe_str (fun _ _ => rfl)) pa_nil)) (pps_cons pe_str (pe_callTy (k_list (K := K) rfl) (by rfl) T.n_list (by decide +kernel) (pa_cons (pe_dget (u1 hr.r.units) (pv 1) pe_str (fun _ _ => rfl)) pa_nil)) (pps_cons pe_str pe_str pps_nil)))) (by rfl) (by rfl) (fun z => by cases z) (by decide)))
      (pss_cons (ps_asg (pe_op (k_add (K := K) rfl) (pe_dget (u1 hr.r.units) (pv 1) pe_str (fun _ _ => rfl)) pe_str) (pg_sub (pv 1) pe_str (set_dict (u1 hr.r.units))))
      (pss_cons (ps_expr (d1 (ok_law_comes T) (hr.mono (by decide)) (by rfl) T.m_law_comes T.F_law_comes.kp T.b_law_comes passL (pa_cons (pv 0) (pa_cons (pv 1) (pa_cons (pv 3) pa_nil)))))
      (pss_cons (ps_expr (d1 (ok_law_comes T) (hr.mono (by decide)) (by rfl) T.m_law_comes T.F_law_comes.kp T.b_law_comes passL (pa_cons (pv 0) (pa_cons (pv 6) (pa_cons (pe_ix (k_ix (K := K) rfl) (pv 5) pe_int (fun _ _ => rfl)) pa_nil)))))
      (pss_one (ps_ret (pv 6))))))) pss_nil)
      (pss_cons (ps_if (pt_cmpR (k_in (K := K) rfl) (pv 4) (pe_tup (pa_cons pe_str (pa_cons pe_str pa_nil))) (rfl)) (pss_cons (ps_par (i := 7) (j := 8) (by rfl) sc_law_turn.nd rfl rfl (by decide) rfl rfl (pa_cons (d1 (ok_law_at T) (hr.mono (by decide)) (by rfl) T.m_law_at T.F_law_at.kp T.b_law_at passL (pa_cons (pe_dget (u1 hr.r.units) (pv 1) pe_str (fun _ _ => rfl)) (pa_cons (pe_ix (k_ix (K := K) rfl) (pv 5) pe_int (fun _ _ => rfl)) pa_nil))) (pa_cons (d1 (ok_law_at T) (hr.mono (by decide)) (by rfl) T.m_law_at T.F_law_at.kp T.b_law_at passL (pa_cons (pe_dget (u1 hr.r.units) (pv 1) pe_str (fun _ _ => rfl)) (pa_cons (pe_ix (k_ix (K := K) rfl) (pv 5) pe_int (fun _ _ => rfl)) pa_nil))) pa_nil)) (by rfl))
      (pss_cons (ps_set (i := 9) sc_law_turn.nd rfl (Or.inl rfl) (pe_ifExp (pt_cmpR (k_eq (K := K) rfl hr.r.units) (pv 4) pe_str (nomark _)) (pe_cmpR op_lt (pv 7) (pv 8) (nomark _)) (pe_cmpR (k_eq (K := K) rfl hr.r.units) (pv 7) (pv 8) (nomark _))))
      (pss_one (ps_expr (d1 (ok_law_comes T) (hr.mono (by decide)) (by rfl) T.m_law_comes T.F_law_comes.kp T.b_law_comes passL (pa_cons (pv 0) (pa_cons (pv 1) (pa_cons (pe_ifExp (pt_val (pv 9)) (pe_ix (k_ix (K := K) rfl) (pv 5) pe_int (fun _ _ => rfl)) (pv 3)) pa_nil)))))))) (pss_one (ps_if (PW.pt (pw_or (pt_cmpR (k_eq (K := K) rfl hr.r.units) (pv 4) pe_str (nomark _)) (pw_or1 (pt_not (pt_val (d1 (ok_law_does T) (hr.mono (by decide)) (by rfl) T.m_law_does T.F_law_does.kp T.b_law_does passL (pa_cons (pv 1) (pa_cons (pv 4) (pa_cons (pv 5) pa_nil))))))))) (pss_one (ps_asg pe_str (pg_sub (pv 1) pe_str (set_dict (u1 hr.r.units))))) (pss_one (ps_expr (d1 (ok_law_comes T) (hr.mono (by decide)) (by rfl) T.m_law_comes T.F_law_comes.kp T.b_law_comes passL (pa_cons (pv 0) (pa_cons (pv 1) (pa_cons (pv 3) pa_nil)))))))))
      (pss_one (ps_ret pe_non)))))), ?_⟩
    dsimp only [cxOf, st_1, st_2, st_3, st_4, st_5, st_6, List.length_cons, List.length_nil, List.replicate_succ, List.replicate_zero, Nat.reduceAdd, Nat.reduceSub]
    walk_at "gs"
    refine i_dgS hd val_place ?_
    walk_at "gs"
    refine i_dgS hd val_place ?_
    walk_at "gs"
    refine i_slT1 (SqT.of htr) ?_
    refine i_new fun Th fTh => ?_
    have kh : Kp [] H (upd H Th (.tup (ns.map V.int))) := Kp.new fTh
    have hTh : SqT K (upd H Th (.tup (ns.map V.int))) Th (ns.map V.int) := SqT.of upd_same
    obtain ⟨H1, e1⟩ : ∃ H1, H1 = upd H Th (.tup (ns.map V.int)) := ⟨_, rfl⟩
    rw [← e1] at kh hTh ⊢
    have O1 := O.kp0 kh
    have hd1 := O1.hd
    have hF1 := kh.at_ _ _ hF not_nil
    have rw1 := rw0.kp kh
    walk_at "gs"
    refine i_dec (fun cf => ?_) (fun cf => ?_)
    · subst cf
      obtain ⟨g, rfl, hg⟩ := inv_r (by decide +kernel) okr
      have af : atFork rs s = true := by
        unfold atFork
        rw [er]
        exact decide_eq_true rfl
      walk_at "gs"
      rename_i d2 fd2
      have kd : Kp [] H1 (upd H1 d2 (.dK [])) := Kp.new fd2
      have hd2 : (upd H1 d2 (.dK [])) d2 = some (.dK []) := upd_same
      obtain ⟨H2, e2⟩ : ∃ H2, H2 = upd H1 d2 (.dK []) := ⟨_, rfl⟩
      rw [← e2] at kd hd2 ⊢
      have O2 := O1.kp0 kd
      have ndd : d2 ≠ d := (fr_ne hd1 fd2).symm
      refine i_dgS O2.hd val_path ?_
      walk_at "gs"
      refine .inr (.inl ⟨pt, "y", rfl, rfl, ?_, ?_⟩)
      · have big : (1000000 : Nat) ≤ sizeLine := by decide
        have : (Str.ofString "y").length = 1 := by decide +kernel
        omega
      walk_at "gs"
      refine i_dgS O2.hd val_row ?_
      obtain ⟨rv, hrv, arv⟩ := id O2.row
      walk_at "gs"
      refine i_new fun Rw2 fR2 => ?_
      have kR : Kp [] H2 (upd H2 Rw2 (.lst rv)) := Kp.new fR2
      have hR2 : (upd H2 Rw2 (.lst rv)) Rw2 = some (.lst rv) := upd_same
      obtain ⟨H3, e3⟩ : ∃ H3, H3 = upd H2 Rw2 (.lst rv) := ⟨_, rfl⟩
      rw [← e3] at kR hR2 ⊢
      have O3 := O2.kp0 kR
      walk_at "gs"
      refine i_dgS O3.hd val_told ?_
      have hT3 := O3.told
      walk_at "gs"
      refine i_new fun Td2 fT2 => ?_
      have kT : Kp [] H3 (upd H3 Td2 (.lst (s.told.map V.int))) := Kp.new fT2
      have hT2 : (upd H3 Td2 (.lst (s.told.map V.int))) Td2 = some (.lst (s.told.map V.int)) := upd_same
      obtain ⟨H4, e4⟩ : ∃ H4, H4 = upd H3 Td2 (.lst (s.told.map V.int)) := ⟨_, rfl⟩
      rw [← e4] at kT hT2 ⊢
      have k24 := Kp.trans kR kT
      have hd24 := k24.at_ _ _ hd2 not_nil
      walk_at "gs"
      refine i_disp4e hd24 ?_
      have kA : Kp [d2] H4 (upd H4 d2 (.dK (oneD (pt ++ Str.ofString "y") Rw2 Td2 "" none))) := kp_dK hd24
      have hA : (upd H4 d2 (.dK (oneD (pt ++ Str.ofString "y") Rw2 Td2 "" none))) d2 = some (.dK (oneD (pt ++ Str.ofString "y") Rw2 Td2 "" none)) := upd_same
      obtain ⟨H5, e5⟩ : ∃ H5, H5 = upd H4 d2 (.dK (oneD (pt ++ Str.ofString "y") Rw2 Td2 "" none)) := ⟨_, rfl⟩
      rw [← e5] at kA hA ⊢
      have nR2 : Rw2 ≠ d2 := (fr_ne hd2 fR2).symm
      have nT2 : Td2 ≠ d2 := (fr_ne (kR.at_ _ _ hd2 not_nil) fT2).symm
      have nRT2 : Rw2 ≠ Td2 := fr_ne hR2 fT2
      have OB5 : OneAt K H5 d2 Rw2 Td2 (pt ++ Str.ofString "y") none { s with rest := "" } := ⟨hA, ⟨rv, kA.at_ _ _ (kT.at_ _ _ hR2 not_nil) (not_one nR2), dpa_imm (Kp.trans k24.wide kA) _ _ (imms_d2 _) arv⟩, kA.at_ _ _ hT2 (not_one nT2), nRT2⟩
      have fd20 : ∀ b ∈ [d2], Fr H b := fun b hb => by
        rw [List.mem_singleton.mp hb]
        exact kh.free fd2
      have k04 := Kp.trans (Kp.trans kh kd) k24
      have k05 : Kp [] H H5 := Kp.own kA k04 fd20
      have O5 := O.kp0 k05
      have big : (1000000 : Nat) ≤ sizeLine := by decide
      have l1 : (Str.ofString "e").length = 1 := by decide +kernel
      have l2 : (Str.ofString "y").length = 1 := by decide +kernel
      walk_at "gs"
      refine i_dgS O5.hd val_path ?_
      walk_at "gs"
      refine .inr (.inl ⟨pt, "e", rfl, rfl, by omega, ?_⟩)
      walk_at "gs"
      refine i_setS O5.hd oneD_len ?_
      rw [put_path]
      have kC : Kp [d] H5 (upd H5 d (.dK (oneD (pt ++ Str.ofString "e") Rw Td s.rest (some i)))) := kp_dK O5.hd
      have hC : (upd H5 d (.dK (oneD (pt ++ Str.ofString "e") Rw Td s.rest (some i)))) d = some (.dK (oneD (pt ++ Str.ofString "e") Rw Td s.rest (some i))) := upd_same
      obtain ⟨H6, e6⟩ : ∃ H6, H6 = upd H5 d (.dK (oneD (pt ++ Str.ofString "e") Rw Td s.rest (some i))) := ⟨_, rfl⟩
      rw [← e6] at kC hC ⊢
      have OA6 : OneAt K H6 d Rw Td (pt ++ Str.ofString "e") (some i) s := by
        have := O5.set (rest := s.rest) (pl := s.place) kC hC
        exact this
      have nRd : Rw2 ≠ d := fun e => by
        obtain ⟨vs, h1, _⟩ := OB5.row
        rw [e, O5.hd] at h1
        cases h1
      have nTd : Td2 ≠ d := fun e => by
        have h1 := OB5.told
        rw [e, O5.hd] at h1
        cases h1
      have OB6 := OB5.kp kC (not_one ndd) (not_one nRd) (not_one nTd)
      have hF6 := kC.at_ _ _ (k05.at_ _ _ hF not_nil) (not_one nF)
      have rw6 := (rw0.kp k05).kp kC
      have hTh6 := kC.seqT ((Kp.trans (Kp.trans kd k24).wide kA).seqT hTh)
      walk_at "gs"
      refine ⟨F, d, Rw, Td, xs, rs, _, _, s, i + 1, rfl, OA6, hF6, rw6, by omega, lr, fun r h => (ok r h).1, fun r h => (ok r h).2.1, fun H7 k7 O7 => ?_⟩
      have OB7 := OB6.kp k7 (not_one ndd) (not_one nRd) (not_one nTd)
      have hF7 := k7.at_ _ _ hF6 (not_one nF)
      have rw7 := rw6.kp k7
      have hTh7 : SqT K H7 Th [V.int g] := k7.seqT hTh6
      have at00 : atI [V.int g] 0 = some (.int g) := at_zero
      walk_at "gs"
      have nF2 : F ≠ d2 := fun e => by
        have h1 := OB7.hd
        rw [← e, hF7] at h1
        cases h1
      refine ⟨F, d2, Rw2, Td2, xs, rs, _, _, { s with rest := "" }, g.toNat, by rw [Int.toNat_of_nonneg hg.1], OB7, hF7, rw7, by omega, lr, fun r h => (ok r h).1, fun r h => (ok r h).2.1, fun H8 k8 O8 => ?_⟩
      obtain ⟨rvo, hro, _⟩ := id O1.row
      have O78 := O7.kp k8 (not_one (Ne.symm ndd)) (not_one (fr_ne hro fd2)) (not_one (fr_ne O1.told fd2))
      walk_at "gs"
      have eS : elderS rs s = comeTo rs (i + 1) s := by
        unfold elderS
        rw [ei, Int.toNat_natCast]
      have yS : youngS rs s = comeTo rs g.toNat { s with rest := "" } := by
        unfold youngS
        rw [er]
        rfl
      have k08 : Kp [d] H H8 := Kp.less (ws := [d, d2]) (Kp.trans (Kp.trans (Kp.trans k05.wide (kC.mono fun b m => by rw [List.mem_singleton.mp m]; exact List.mem_cons_self)) (k7.mono fun b m => by rw [List.mem_singleton.mp m]; exact List.mem_cons_self)) (k8.mono fun b m => by rw [List.mem_singleton.mp m]; exact List.mem_cons_of_mem _ List.mem_cons_self)) fun b m => by
        rcases List.mem_cons.mp m with e | m
        · rw [e]
          exact .inl List.mem_cons_self
        · rw [List.mem_singleton.mp m]
          exact .inr (kh.free fd2)
      refine kF af d2 Rw2 Td2 _ _ _ _ H8 (kh.free fd2) ((Kp.trans kh (Kp.trans kd kR)).free fT2) k08 (by rw [eS]; exact O78) (by rw [yS]; exact O8) ?_ ?_ ?_ ?_
      · rw [strLen_append]
        omega
      · rw [strLen_append]
        omega
      · rw [eS]
        exact come_place
      · rw [yS]
        exact come_place
    have af : atFork rs s = false := by
      unfold atFork
      rw [er]
      exact decide_eq_false cf
    have stp := stepS_row er
    walk_at "gs"
    refine i_new fun tt ftt => ?_
    have kt2 : Kp [] H1 (upd H1 tt (.tup [V.str (Str.ofString "less"), V.str (Str.ofString "same")])) := Kp.new ftt
    have htt : SqT K (upd H1 tt (.tup [V.str (Str.ofString "less"), V.str (Str.ofString "same")])) tt [V.str (Str.ofString "less"), V.str (Str.ofString "same")] := SqT.of upd_same
    obtain ⟨H2, e2⟩ : ∃ H2, H2 = upd H1 tt (.tup [V.str (Str.ofString "less"), V.str (Str.ofString "same")]) := ⟨_, rfl⟩
    rw [← e2] at kt2 htt ⊢
    have O2 := O1.kp0 kt2
    have hTh2 := kt2.seqT hTh
    have hF2 := kt2.at_ _ _ hF1 not_nil
    have rw2 := rw1.kp kt2
    have k02 := Kp.trans kh kt2
    walk_at "gs"
    refine ⟨tt, _, rfl, .inr htt, rfl, rfl, ?_⟩
    simp only [Bool.false_eq_true, if_false]
    rw [inV2]
    walk_at "gs"
    refine i_bool2 (fun cls => ?_) (fun cls => ?_)
    · have hw2 : w = Str.ofString "less" ∨ w = Str.ofString "same" := by simpa using cls
      have mem : (w, Str.ofString "ccr") ∈ kv_SHAPES := by rcases hw2 with rfl | rfl <;> decide +kernel
      obtain ⟨c, e, g, rfl, hc, he, hg⟩ := inv_ccr mem okr
      have at0' : atI [V.int c, V.int e, V.int g] 0 = some (.int c) := atI_nat (j := 0) rfl
      have at1' : atI [V.int c, V.int e, V.int g] 1 = some (.int e) := atI_nat (j := 1) rfl
      have at2' : atI [V.int c, V.int e, V.int g] 2 = some (.int g) := atI_nat (j := 2) rfl
      have hTh2 : SqT K H2 Th [V.int c, V.int e, V.int g] := hTh2
      walk_at "gs"
      refine i_dgS O2.hd val_row ?_
      walk_at "gs"
      refine ⟨Rw, c, s.cs, rfl, O2.row, hc, by omega, fun H3 k3 => ?_⟩
      have O3 := O2.kp0 k3
      have hTh3 := k3.seqT hTh2
      walk_at "gs"
      refine i_dgS O3.hd val_row ?_
      walk_at "gs"
      refine ⟨Rw, e, s.cs, rfl, O3.row, he, by omega, fun H4 k4 => ?_⟩
      have O4 := O3.kp0 k4
      have hTh4 := k4.seqT hTh3
      have k24 := Kp.trans k3 k4
      have hF4 := k24.at_ _ _ hF2 not_nil
      have rw4 := rw2.kp k24
      obtain ⟨A, eA⟩ : ∃ A, A = getC s.cs c := ⟨_, rfl⟩
      obtain ⟨B, eB⟩ : ∃ B, B = getC s.cs e := ⟨_, rfl⟩
      rw [← eA, ← eB]
      have est : stepS rs s = comeTo rs (if (A < B ∧ w = Str.ofString "less") ∨ (A = B ∧ w = Str.ofString "same") then g.toNat else i + 1) s := by
        rw [stp, if_pos hw2, eA, eB, ei, Int.toNat_natCast]
        rfl
      have hd4 := O4.hd
      have fin : ∀ (pl : Nat) H5, Kp [d] H4 H5 → OneAt K H5 d Rw Td pt (some (pl : Int)) (comeTo rs pl s) → stepS rs s = comeTo rs pl s → Q .non H5 := fun pl H5 k5 O5 e => kS af Rw pl H5 (Kp.trans (Kp.trans k02 k24).wide (k5.mono own2_d)) (by rw [e]; exact O5) (by rw [e]; exact come_place)
      walk_at "gs"
      refine i_dec (fun cl => ?_) (fun cl => ?_)
      · walk_at "gs"
        refine i_dec (fun ab => ?_) (fun ab => ?_)
        · walk_at "gs"
          refine ⟨F, d, Rw, Td, xs, rs, pt, _, s, g.toNat, by rw [Int.toNat_of_nonneg hg.1], O4, hF4, rw4, by omega, lr, fun r h => (ok r h).1, fun r h => (ok r h).2.1, fun H5 k5 O5 => ?_⟩
          walk_at "gs"
          exact fin _ H5 k5 O5 (by rw [est, if_pos (.inl ⟨ab, cl⟩)])
        · have ns : ¬ w = Str.ofString "same" := by
            rw [cl]
            decide +kernel
          walk_at "gs"
          refine ⟨F, d, Rw, Td, xs, rs, pt, _, s, i + 1, rfl, O4, hF4, rw4, by omega, lr, fun r h => (ok r h).1, fun r h => (ok r h).2.1, fun H5 k5 O5 => ?_⟩
          walk_at "gs"
          exact fin _ H5 k5 O5 (by rw [est, if_neg (fun z => z.elim (fun y => ab y.1) (fun y => ns y.2))])
      · have ws : w = Str.ofString "same" := hw2.resolve_left cl
        walk_at "gs"
        refine i_dec (fun ab => ?_) (fun ab => ?_)
        · walk_at "gs"
          refine ⟨F, d, Rw, Td, xs, rs, pt, _, s, g.toNat, by rw [Int.toNat_of_nonneg hg.1], O4, hF4, rw4, by omega, lr, fun r h => (ok r h).1, fun r h => (ok r h).2.1, fun H5 k5 O5 => ?_⟩
          walk_at "gs"
          exact fin _ H5 k5 O5 (by rw [est, if_pos (.inr ⟨ab, ws⟩)])
        · walk_at "gs"
          refine ⟨F, d, Rw, Td, xs, rs, pt, _, s, i + 1, rfl, O4, hF4, rw4, by omega, lr, fun r h => (ok r h).1, fun r h => (ok r h).2.1, fun H5 k5 O5 => ?_⟩
          walk_at "gs"
          exact fin _ H5 k5 O5 (by rw [est, if_neg (fun z => z.elim (fun y => cl y.2) (fun y => ab y.1))])
    have nls : ¬ (w = Str.ofString "less" ∨ w = Str.ofString "same") := by
      intro z
      rcases z with rfl | rfl
      · simp at cls
      · simp at cls
    have est : stepS rs s = if w = Str.ofString "fail" then failS s else (match doesS w ns s with
        | none => failS s
        | some s' => comeTo rs (i + 1) s') := by
      rw [stp, if_neg nls, ei, Int.toNat_natCast]
      show (if w = Str.ofString "fail" then failS s else if w = Str.ofString "from" ∨ w = Str.ofString "into" then _ else _) = _
      split
      · rfl
      · unfold doesS
        split
        · rfl
        · rfl
    have hd2 := O2.hd
    have failk : ∀ (H3 : Hp), Kp [] H H3 → H3 d = some (.dK (oneD pt Rw Td s.rest (some i))) → stepS rs s = failS s → Q .non (upd H3 d (.dK (oneD pt Rw Td "failed" (some i)))) := by
      intro H3 k3 hd3 e
      have kA : Kp [d] H3 (upd H3 d (.dK (oneD pt Rw Td "failed" (some i)))) := kp_dK hd3
      have O3 := (O.kp0 k3).set (rest := "failed") (pl := -1) kA upd_same
      refine kS af Rw i _ (Kp.trans k3.wide (kA.mono own2_d)) (by rw [e]; exact O3) (fun r => ?_)
      rw [e] at r
      have nd : ¬ (Str.ofString "failed" = Str.ofString "") := by decide +kernel
      exact absurd r nd
    walk_at "gs"
    refine i_dec (fun cf2 => ?_) (fun cf2 => ?_)
    · walk_at "gs"
      refine i_setS hd2 oneD_len ?_
      rw [put_rest]
      walk_at "gs"
      exact failk H2 k02 hd2 (by rw [est, if_pos cf2])
    rw [if_neg cf2] at est
    have dw : Does w := by
      have key : w ∈ kv_SHAPES.map (·.1) := by
        refine Decidable.by_contra fun c => ?_
        have := okr
        simp only [rowD, rowOk] at this
        rw [kv_none c] at this
        cases this
      have all : ∀ w ∈ kv_SHAPES.map (·.1), w = Str.ofString "fork" ∨ (w = Str.ofString "less" ∨ w = Str.ofString "same") ∨ w = Str.ofString "fail" ∨ w = Str.ofString "done" ∨ w = Str.ofString "tell" ∨ w = Str.ofString "fill" ∨ w = Str.ofString "put" ∨ w = Str.ofString "move" ∨ w = Str.ofString "add" ∨ w = Str.ofString "from" ∨ w = Str.ofString "into" := by decide +kernel
      rcases all w key with e | e | e | e | e
      · exact absurd e cf
      · exact absurd e nls
      · exact absurd e cf2
      · exact absurd e ndw
      · exact e
    walk_at "gs"
    refine ⟨d, Rw, Td, Th, pt, some i, s, w, ns, rs.length, rfl, O2, hTh2, dw, okr, few, tf, fun e H3 k3 => ?_, fun s' e Rw' H3 k3 O3 => ?_⟩
    · have hd3 := k3.at_ _ _ hd2 not_nil
      rw [e] at est
      refine ⟨_, rfl, ?_⟩
      simp only [Bool.not_false, if_true]
      walk_at "gs"
      refine i_setS hd3 oneD_len ?_
      rw [put_rest]
      walk_at "gs"
      exact failk H3 (Kp.trans k02 k3) hd3 est
    · rw [e] at est
      have hF3 : H3 F = some (.lst xs) := k3.at_ _ _ hF2 (not_two nF nFT)
      have rw3 := rw2.kp k3
      have hd3 := O3.hd
      refine ⟨_, rfl, ?_⟩
      simp only [Bool.not_true, Bool.false_eq_true, if_false]
      walk_at "gs"
      refine ⟨F, d, Rw', Td, xs, rs, pt, _, s', i + 1, rfl, O3, hF3, rw3, by omega, lr, fun r h => (ok r h).1, fun r h => (ok r h).2.1, fun H5 k5 O5 => ?_⟩
      walk_at "gs"
      exact kS af Rw' _ H5 (Kp.trans (Kp.trans k02.wide k3) (k5.mono own2_d)) (by rw [est]; exact O5) (by rw [est]; exact come_place)

/-! ### what the law finds due -/
def sp_ldue (K : PySem.W.Frag) : Sp := fun vs H Q _ => ∃ (F : Addr) (n : Int) (xs : List V) (rs : List (Str × List Int)) (z : Str) (sF : LS) (zF : List Nat), vs = [.int n, .ref F, .str z] ∧ H F = some (.lst xs) ∧ RwAt H xs rs ∧ (1 ≤ n ∧ n ≤ 1000000000000000000) ∧
  RsOk rs n ∧ SmallR rs ∧ rs.length ≤ 1000 ∧ z.length ≤ 1000 ∧ goS rs 1000 (beginS rs n) z.cps.toList = some (sF, zF) ∧
  (zF ≠ [] → ∀ H', Kp [] H H' → Q (.str "left") H') ∧ (zF = [] → ∀ t Td Rw H', Kp [] H H' → SqT K H' t [.str (stateT sF), .ref Td, .ref Rw] → H' Td = some (.lst (sF.told.map V.int)) → LD K H' Rw ((rle sF.cs).map d2) → Q (.ref t) H')
theorem sc_law_due : FnScope ["_law_wide", "_law_rows", "_law_trail", "_law_one", "_law_used", "_law_other"] ["_law_wide", "_law_rows", "_law_trail"] (defScope s_law_due) :=
  ⟨rfl, rfl, rfl, by decide +kernel, rfl, by decide +kernel, by decide +kernel⟩
theorem ok_law_due {P : Program} {w : World} {K : PySem.W.Frag} {mg : Str → Option Value} {base : Heap} (T : Txt w K mg) :
    FnG P w K mg base 7 T.a_law_due T.d_law_due ["_law_wide", "_law_rows", "_law_trail"] (sp_ldue K) := by
  refine okD T.F_law_due sc_law_due (fun vs H Q E h => ?_) (fun cdv A outer s H vs Q E hr h => ?_)
  · first
      | (obtain ⟨_, rfl, _⟩ := h; rfl)
      | (obtain ⟨_, _, rfl, _⟩ := h; rfl)
      | (obtain ⟨_, _, _, rfl, _⟩ := h; rfl)
      | (obtain ⟨_, _, _, _, rfl, _⟩ := h; rfl)
      | (obtain ⟨_, _, _, _, _, rfl, _⟩ := h; rfl)
      | (obtain ⟨_, _, _, _, _, _, rfl, _⟩ := h; rfl)
      | (obtain ⟨_, _, _, _, _, _, _, rfl, _⟩ := h; rfl)
      | (obtain ⟨_, _, _, _, _, _, _, _, rfl, _⟩ := h; rfl)
      | (obtain ⟨_, _, _, _, _, _, _, _, _, rfl, _⟩ := h; rfl)
      | (obtain ⟨_, _, _, _, _, _, _, _, _, _, rfl, _⟩ := h; rfl)
      | (obtain ⟨_, _, _, _, _, _, _, _, _, _, _, rfl, _⟩ := h; rfl)
      | (obtain ⟨_, _, _, _, _, _, _, _, _, _, _, _, rfl, _⟩ := h; rfl)
      | (obtain ⟨_, _, _, _, _, _, _, _, _, _, _, _, _, rfl, _⟩ := h; rfl)
      | (obtain ⟨_, _, _, _, _, _, _, _, _, _, _, _, _, _, rfl, _⟩ := h; rfl)
      | (obtain ⟨_, _, _, _, _, _, _, _, _, _, _, _, _, _, _, rfl, _⟩ := h; rfl)
      | (obtain ⟨_, _, _, _, _, _, _, _, _, _, _, _, _, _, _, _, rfl, _⟩ := h; rfl)
      | (obtain ⟨_, _, _, _, _, _, _, _, _, _, _, _, _, _, _, _, _, rfl, _⟩ := h; rfl)
      | (obtain ⟨_, _, _, _, _, _, _, _, _, _, _, _, _, _, _, _, _, _, rfl, _⟩ := h; rfl)
      | (obtain ⟨_, _, _, _, _, _, _, _, _, _, _, _, _, _, _, _, _, _, _, rfl, _⟩ := h; rfl)
  · obtain ⟨F, n, xs, rs, z, sF, zF, rfl, hF, rw0, hn, ok, sm, lr, lz, go, kE, kQ⟩ := h
    have hn2 : (n.toNat : Int) = n := Int.toNat_of_nonneg (by omega)
    have big : (1000000 : Nat) ≤ sizeLine := by decide
    have lx := rw0.1
    refine ⟨_, (pss_cons (ps_par (i := 3) (j := 4) (by rfl) sc_law_due.nd rfl rfl (by decide) rfl rfl (pa_cons (d1 (ok_law_begun T) (hr.mono (by decide)) (by rfl) T.m_law_begun T.F_law_begun.kp T.b_law_begun passL (pa_cons (pv 0) (pa_cons (pv 1) pa_nil))) (pa_cons pe_int pa_nil)) (by rfl))
      (pss_cons (ps_while (passes_of rfl) (PW.pt (pw_and (pt_cmpR (k_eq (K := K) rfl hr.r.units) (pe_dget (u1 hr.r.units) (pv 3) pe_str (fun _ _ => rfl)) pe_str (nomark _)) (pw_and1 (PW.pt (pw_or (pt_cmpR op_lt (pv 4) (pe_callB (k_len (K := K) rfl) (by rfl) T.n_len (by decide +kernel) (pa_cons (pv 2) pa_nil)) (nomark _)) (pw_or1 (pt_cmpR (k_ne (K := K) rfl hr.r.units) (pe_ix (k_ix (K := K) rfl) (pe_ix (k_ix (K := K) rfl) (pv 1) (pe_dget (u1 hr.r.units) (pv 3) pe_str (fun _ _ => rfl)) (fun _ _ => rfl)) pe_int (fun _ _ => rfl)) pe_str (nomark _)))))))) (pss_cons (ps_set (i := 5) sc_law_due.nd rfl (Or.inl rfl) (d1 (ok_law_turn T) (hr.mono (by decide)) (by rfl) T.m_law_turn T.F_law_turn.kp T.b_law_turn passL (pa_cons (pv 1) (pa_cons (pv 3) pa_nil))))
      (pss_one (ps_if (pt_cmpR op_notN1 (pv 5) pe_non (nomark _)) (pss_cons (ps_set (i := 3) sc_law_due.nd rfl (Or.inl rfl) (pe_ifExp (pt_cmpR (k_eq (K := K) rfl hr.r.units) (pe_ix ix_str (pv 2) (pv 4) (fun _ _ => rfl)) pe_str (nomark _)) (pv 5) (pv 3)))
      (pss_one (ps_set (i := 4) sc_law_due.nd rfl (Or.inl rfl) (pe_op (k_add (K := K) rfl) (pv 4) pe_int)))) pss_nil))))
      (pss_cons (ps_if (pt_cmpR op_lt (pv 4) (pe_callB (k_len (K := K) rfl) (by rfl) T.n_len (by decide +kernel) (pa_cons (pv 2) pa_nil)) (nomark _)) (pss_one (ps_ret pe_str)) pss_nil)
      (pss_one (ps_ret (pe_tup (pa_cons (pe_ifExp (pt_cmpR (k_ne (K := K) rfl hr.r.units) (pe_dget (u1 hr.r.units) (pv 3) pe_str (fun _ _ => rfl)) pe_str (nomark _)) (pe_dget (u1 hr.r.units) (pv 3) pe_str (fun _ _ => rfl)) pe_str) (pa_cons (pe_dget (u1 hr.r.units) (pv 3) pe_str (fun _ _ => rfl)) (pa_cons (pe_dget (u1 hr.r.units) (pv 3) pe_str (fun _ _ => rfl)) pa_nil))))))))), ?_⟩
    dsimp only [cxOf, st_1, st_2, st_3, st_4, st_5, st_6, List.length_cons, List.length_nil, List.replicate_succ, List.replicate_zero, Nat.reduceAdd, Nat.reduceSub]
    walk_at "gs"
    refine ⟨F, xs, rs, n, rfl, hF, rw0, lr, fun r h => (ok r h).1, fun r h => (ok r h).2.1, hn.1, fun d Rw Td po H1 fd fT k1 O1 pp => ?_⟩
    walk_at "gs"
    have nd0 : ND rs (beginS rs n) := nd_come
    refine i_while (fun m σ H' => ∃ (d Rw Td : Addr) (pt : Str) (s : LS) (j u : Nat) (po : Int) (o : Option V), m = 1000 - j ∧ σ = [some (.int n), some (.ref F), some (.str z), some (.ref d), some (.int u), o] ∧ Kp [] H H' ∧ Fr H d ∧ Fr H Td ∧ OneAt K H' d Rw Td pt (some po) s ∧ (s.rest = "" → po = s.place) ∧ ND rs s ∧ pt.length ≤ j ∧ SOk rs n.toNat j s ∧ j ≤ 1000 ∧ u ≤ z.length ∧ goS rs (1000 - j) s (z.cps.toList.drop u) = some (sF, zF)) 1000 ?_ ?_
    · exact ⟨d, Rw, Td, "", beginS rs n, 0, 0, po, none, rfl, rfl, k1, fd, fT, O1, pp, nd0, Nat.le_refl _, begin_ok hn.1, Nat.zero_le _, Nat.zero_le _, go⟩
    · rintro m σ H' ⟨d, Rw, Td, pt, s, j, u, po, o, rfl, rfl, k', fd, fT, O, pp, nd, lp, S, jm, uz, g⟩
      have zl : z.cps.toList.length = z.length := Array.length_toList
      obtain ⟨zs, ezs⟩ : ∃ zs, zs = z.cps.toList.drop u := ⟨_, rfl⟩
      have ez : zs.isEmpty = !decide (u < z.length) := by rw [ezs, drop_empty, zl]
      rw [← ezs] at g
      have hF' := k'.at_ _ _ hF not_nil
      have rw' := rw0.kp k'
      have few := S.few
      have tf := S.tf
      have nFT : F ≠ Td := fr_ne hF fT
      refine i_cutB (goes rs s zs) (fun QB q => ?_) ?_
      · unfold goes at q
        rw [ez, Bool.not_not] at q
        walk_at "gs"
        refine i_dgS O.hd val_rest ?_
        walk_at "gs"
        refine i_dec (fun r => ?_) (fun r => ?_)
        · rw [decide_eq_true r, Bool.true_and] at q
          obtain ⟨i, qr, ei, hi, hq, er, hm⟩ := S.row r
          have epo := pp r
          walk_at "gs"
          refine i_lenS (by omega) ?_
          walk_at "gs"
          refine i_dec (fun c => ?_) (fun c => ?_)
          · have c' : u < z.length := by omega
            rw [decide_eq_true c', Bool.true_or] at q
            exact q
          · have c' : ¬ u < z.length := by omega
            rw [decide_eq_false c', Bool.false_or] at q
            obtain ⟨x, hx⟩ : ∃ x, xs[i]? = some x := ⟨_, List.getElem?_eq_getElem (by omega)⟩
            obtain ⟨tr, rfl, htr⟩ := rw'.2 i x qr hx hq
            have hat : atI xs po = some (.ref tr) := by
              rw [epo, ei]
              exact atI_nat hx
            have at0 : atI (V.str qr.1 :: qr.2.map V.int) 0 = some (.str qr.1) := at_zero
            walk_at "gs"
            refine i_dgS O.hd val_place ?_
            walk_at "gs"
            have e : atFork rs s = decide (qr.1 = Str.ofString "fork") := by
              unfold atFork
              rw [er]
            rw [← e]
            exact q
        · rw [decide_eq_false r, Bool.false_and] at q
          exact q
      cases hg : goes rs s zs with
      | false =>
        rw [if_neg (by decide)]
        rw [goS_end hg] at g
        cases g
        walk_at "gs"
        refine i_lenS (by omega) ?_
        walk_at "gs"
        refine i_dec (fun c => ?_) (fun c => ?_)
        · walk_at "gs"
          refine kE (fun e => ?_) H' k'
          rw [e] at ez
          have c' : u < z.length := by omega
          rw [decide_eq_true c'] at ez
          cases ez
        have e0 : zF = [] := by
          have c' : ¬ u < z.length := by omega
          rw [decide_eq_false c'] at ez
          exact List.isEmpty_iff.mp ez
        walk_at "gs"
        refine i_dgS O.hd val_rest ?_
        walk_at "gs"
        refine i_decN (fun r => ?_) (fun r => ?_)
        · have est : stateT sF = sF.rest := by
            unfold stateT
            rw [if_neg r]
          walk_at "gs"
          refine i_dgS O.hd val_rest ?_
          walk_at "gs"
          refine i_dgS O.hd val_told ?_
          walk_at "gs"
          refine i_dgS O.hd val_row ?_
          walk_at "gs"
          refine i_new fun t ft => ?_
          have kt : Kp [] H' (upd H' t (.tup [.str sF.rest, .ref Td, .ref Rw])) := Kp.new ft
          exact kQ e0 t Td Rw _ (Kp.trans k' kt) (by rw [est]; exact SqT.of upd_same) (kt.at_ _ _ O.told not_nil) (O.row.kp kt (imms_d2 _) not_nil)
        · have est : stateT sF = "fork" := by
            unfold stateT
            rw [if_pos r]
          walk_at "gs"
          refine i_dgS O.hd val_told ?_
          walk_at "gs"
          refine i_dgS O.hd val_row ?_
          walk_at "gs"
          refine i_new fun t ft => ?_
          have kt : Kp [] H' (upd H' t (.tup [.str "fork", .ref Td, .ref Rw])) := Kp.new ft
          exact kQ e0 t Td Rw _ (Kp.trans k' kt) (by rw [est]; exact SqT.of upd_same) (kt.at_ _ _ O.told not_nil) (O.row.kp kt (imms_d2 _) not_nil)
      | true =>
        rw [if_pos rfl]
        have r : s.rest = "" := by
          unfold goes at hg
          exact of_decide_eq_true (Bool.and_eq_true_iff.mp hg).1
        obtain ⟨i, qr, ei, hi, hq, er, hm⟩ := S.row r
        obtain ⟨f, ef, g2⟩ := goS_on hg g
        have S2 := S.next hn2 ok sm r (zs := zs)
        have le : (s.cs.length : Int) = n := by rw [S.len, hn2]
        have epo : po = (i : Int) := (pp r).trans ei
        subst epo
        refine i_loop ?_
        walk_at "gs"
        have hf : 1000 - (j + 1) = f := by omega
        refine ⟨F, d, Rw, Td, xs, rs, pt, s, i, rfl, O, hF', nFT, rw', ei, r, hi, lr, by rw [le]; exact ok, nd, by omega, by omega, by omega, fun af d2 Rw2 Td2 pt1 pt2 po1 po2 H4 fd2 fT2 k4 O4 O5 l1 l2 p1 p2 => ?_, fun af Rw' po' H4 k4 O4 p4 => ?_⟩
        · have uz2 : u < z.length := by
            refine Decidable.by_contra fun c => ?_
            unfold goes at hg
            rw [ez, decide_eq_false c, af] at hg
            simp at hg
          obtain ⟨c, hc⟩ : ∃ c, z.cps.toList[u]? = some c := ⟨_, List.getElem?_eq_getElem (by omega)⟩
          have hat : atI z.cps.toList (u : Int) = some c := atI_nat hc
          have ec : zs = c :: z.cps.toList.drop (u + 1) := by
            rw [ezs, List.drop_eq_getElem?_toList_append, hc]
            rfl
          have e3 : nextS rs s zs = if c = 121 then youngS rs s else elderS rs s := by
            unfold nextS
            rw [af, if_pos rfl, ec]
            rfl
          have e4 : nextZ rs s zs = z.cps.toList.drop (u + 1) := by
            unfold nextZ
            rw [af, if_pos rfl, ec]
            rfl
          have k5 := Kp.own k4 k' (fun b hb => by
            rw [List.mem_singleton.mp hb]
            exact fd)
          have nd2 : ND rs (nextS rs s zs) := nd_next er
          walk_at "gs"
          refine ⟨z, u, c, rfl, rfl, by omega, hat, ?_⟩
          walk_at "gs"
          refine i_dec (fun cy => ?_) (fun cy => ?_)
          · have cy : c = 121 := by
              rw [one_y] at cy
              exact str1_eq.mp cy
            rw [if_pos cy] at e3
            walk_at "gs"
            refine ⟨1000 - (j + 1), by omega, d2, Rw2, Td2, pt2, nextS rs s zs, j + 1, u + 1, po2, _, rfl, rfl, k5, k'.free fd2, k'.free fT2, by rw [e3]; exact O5, by rw [e3]; exact p2, nd2, by omega, S2, by omega, by omega, ?_⟩
            rw [hf, ← e4]
            exact g2
          · have cy : ¬ c = 121 := fun z => cy (by
              rw [one_y, z])
            rw [if_neg cy] at e3
            walk_at "gs"
            refine ⟨1000 - (j + 1), by omega, d, Rw, Td, pt1, nextS rs s zs, j + 1, u + 1, po1, _, rfl, rfl, k5, fd, fT, by rw [e3]; exact O4, by rw [e3]; exact p1, nd2, by omega, S2, by omega, by omega, ?_⟩
            rw [hf, ← e4]
            exact g2
        · have e3 : nextS rs s zs = stepS rs s := by
            unfold nextS
            rw [af, if_neg (by decide)]
          have e4 : nextZ rs s zs = zs := by
            unfold nextZ
            rw [af, if_neg (by decide)]
          have nd2 : ND rs (nextS rs s zs) := nd_next er
          walk_at "gs"
          have k5 := Kp.own k4 k' (fun b hb => by
            rcases List.mem_cons.mp hb with e | hb
            · rw [e]; exact fd
            · rw [List.mem_singleton.mp hb]; exact fT)
          refine ⟨1000 - (j + 1), by omega, d, Rw', Td, pt, nextS rs s zs, j + 1, u, po', _, rfl, rfl, k5, fd, fT, by rw [e3]; exact O4, by rw [e3]; exact p4, nd2, by omega, S2, by omega, uz, ?_⟩
          rw [e4] at g2
          rw [hf, ← ezs]
          exact g2

/-! ### what is told of a path -/
def sp_ltold (K : PySem.W.Frag) (CP CM CL : Addr) : Sp := fun vs H Q _ => ∃ (p R : Addr) (n : Int) (xs : List V) (rs : List (Str × List Int)) (z : Str) (sF : LS) (zF : List Nat), vs = [.ref p, .str z] ∧ CL ≠ CM ∧ ProgAt CP H p R n xs ∧ DpAll K H xs (rs.map rowD) ∧ (1 ≤ n ∧ n ≤ 1000000000000000000) ∧
  RsOk rs n ∧ SmallR rs ∧ rs.length ≤ 1000 ∧ z.length ≤ 1000 ∧ letS z = true ∧ goS rs 1000 (beginS rs n) z.cps.toList = some (sF, zF) ∧
  (zF ≠ [] → ∀ H', Kp [] H H' → Q (.str "left") H') ∧ (zF = [] → ∀ t NL RN H', Fr H t → Fr H NL → Fr H RN → NL ≠ RN → Kp [] H H' → SqT K H' t [.str (stateT sF), .ref NL, .ref RN] → H' NL = some (.lst (sF.told.map V.int)) → LD K H' RN ((rle sF.cs).map d2) → Q (.ref t) H')
theorem sc_law_told : FnScope ["_law_plan_here", "_law_trail", "_law_told_here"] ["_law_plan_here", "_law_trail"] (defScope s_law_told) :=
  ⟨rfl, rfl, rfl, by decide +kernel, rfl, by decide +kernel, by decide +kernel⟩
theorem ok_law_told {P : Program} {w : World} {K : PySem.W.Frag} {mg : Str → Option Value} {base : Heap} (T : Txt w K mg) :
    FnG P w K mg base 11 T.a_law_told T.d_law_told ["_law_plan_here", "_law_trail"] (sp_ltold K T.c_Program T.c_Memory T.c_Lone) := by
  refine okD T.F_law_told sc_law_told (fun vs H Q E h => ?_) (fun cdv A outer s H vs Q E hr h => ?_)
  · first
      | (obtain ⟨_, rfl, _⟩ := h; rfl)
      | (obtain ⟨_, _, rfl, _⟩ := h; rfl)
      | (obtain ⟨_, _, _, rfl, _⟩ := h; rfl)
      | (obtain ⟨_, _, _, _, rfl, _⟩ := h; rfl)
      | (obtain ⟨_, _, _, _, _, rfl, _⟩ := h; rfl)
      | (obtain ⟨_, _, _, _, _, _, rfl, _⟩ := h; rfl)
      | (obtain ⟨_, _, _, _, _, _, _, rfl, _⟩ := h; rfl)
      | (obtain ⟨_, _, _, _, _, _, _, _, rfl, _⟩ := h; rfl)
      | (obtain ⟨_, _, _, _, _, _, _, _, _, rfl, _⟩ := h; rfl)
      | (obtain ⟨_, _, _, _, _, _, _, _, _, _, rfl, _⟩ := h; rfl)
      | (obtain ⟨_, _, _, _, _, _, _, _, _, _, _, rfl, _⟩ := h; rfl)
      | (obtain ⟨_, _, _, _, _, _, _, _, _, _, _, _, rfl, _⟩ := h; rfl)
      | (obtain ⟨_, _, _, _, _, _, _, _, _, _, _, _, _, rfl, _⟩ := h; rfl)
      | (obtain ⟨_, _, _, _, _, _, _, _, _, _, _, _, _, _, rfl, _⟩ := h; rfl)
      | (obtain ⟨_, _, _, _, _, _, _, _, _, _, _, _, _, _, _, rfl, _⟩ := h; rfl)
      | (obtain ⟨_, _, _, _, _, _, _, _, _, _, _, _, _, _, _, _, rfl, _⟩ := h; rfl)
      | (obtain ⟨_, _, _, _, _, _, _, _, _, _, _, _, _, _, _, _, _, rfl, _⟩ := h; rfl)
      | (obtain ⟨_, _, _, _, _, _, _, _, _, _, _, _, _, _, _, _, _, _, rfl, _⟩ := h; rfl)
      | (obtain ⟨_, _, _, _, _, _, _, _, _, _, _, _, _, _, _, _, _, _, _, rfl, _⟩ := h; rfl)
  · obtain ⟨p, R, n, xs, rs, z, sF, zF, rfl, no, hp, da, hn, ok, sm, lr, lz, lt, go, kE, kQ⟩ := h
    refine ⟨_, (pss_cons (ps_set (i := 2) sc_law_told.nd rfl (Or.inl rfl) pe_non)
      (pss_cons (ps_try_only rfl rfl ⟨rfl, by decide, .inl T.mx_NoPath⟩ takes0 (fun W pn xe tk _ => (pss_one (ps_set (i := 2) sc_law_told.nd rfl (Or.inl rfl) (s1 (ok_gone_alone T) (hr.mono (by decide)) (by rfl) T.m_gone_alone T.F_gone_alone.kp T.b_gone_alone (passAt tk) (pa_cons (pv 0) (pa_cons (pv 1) pa_nil)))))) (fun ea eo ecl ed epn hz hf => (pss_one (ps_set (i := 2) sc_law_told.nd rfl (Or.inl rfl) pe_str))))
      (pss_one (ps_ret (pv 2))))), ?_⟩
    dsimp only [cxOf, st_1, st_2, st_3, st_4, st_5, st_6, List.length_cons, List.length_nil, List.replicate_succ, List.replicate_zero, Nat.reduceAdd, Nat.reduceSub]
    walk_at "gs"
    refine ⟨p, R, n, xs, rs, z, 1000, sF, zF, rfl, no, hp, da, hn, ok, sm, lr, lz, lt, Nat.le_refl _, go, fun ne H1 k1 => ?_, fun e t NL RN H1 ft fN fR nn k1 ht hN lR => ?_⟩
    · refine ⟨true, PySem.W.exm_ref T.ec_NoPath.hs T.ec_NoPath.hd T.et_NoPath T.is_NoPath_NoPath, fun _ a ha => ?_, (fun z => by cases z)⟩
      walk_at "gs"
      exact kE ne H1 k1
    · walk_at "gs"
      exact kQ e t NL RN H1 ft fN fR nn k1 ht hN lR
/-! ### what is told, shown -/
theorem run_among : ∀ {ps : List (Int × Int)} {q : Int × Int}, q ∈ ps → 0 < q.1 → q.2 ∈ cells ps ∧ q.1 ≤ (cells ps).length
  | p :: ps, q, h, hp => by
    rw [cells_cons, List.mem_append, List.length_append, List.length_replicate]
    rcases List.mem_cons.mp h with rfl | h
    · exact ⟨.inl (List.mem_replicate.mpr ⟨by omega, rfl⟩), by omega⟩
    · obtain ⟨a, b⟩ := run_among h hp
      exact ⟨.inr a, by omega⟩
theorem ok_runs {cs : List Int} (h : ∀ v ∈ cs, okI v) (hl : cs.length ≤ 1000000000000000000) : ∀ q ∈ rle cs, okI q.1 ∧ okI q.2 := by
  intro q hq
  have hp := rle_pos cs q hq
  obtain ⟨a, b⟩ := run_among hq hp
  rw [cells_rle] at a b
  exact ⟨okI_of (by omega) (by omega), h _ a⟩
def duD (s : LS) : PyData := .tuple [.str (stateT s), .list (s.told.map .int), .list ((rle s.cs).map d2)]
def RestOk (s : LS) : Prop := s.rest = "" ∨ s.rest = "done" ∨ s.rest = "failed"
section
variable {rs : List (Str × List Int)} {s : LS}
theorem rest_come {pl : Nat} (h : RestOk s) : RestOk (comeTo rs pl s) := by
  unfold comeTo
  split
  · exact .inr (.inl rfl)
  · split
    · exact .inr (.inl rfl)
    · exact h
theorem rest_next {zs : List Nat} (h : RestOk s) : RestOk (nextS rs s zs) := by
  have h0 : ∀ (w : Str) (ns : List Int), RestOk (changeS w ns s) := fun w ns => by
    unfold RestOk
    rw [change_rest]
    exact h
  have f : RestOk (failS s) := .inr (.inr rfl)
  unfold nextS
  split
  · split
    · unfold youngS
      split
      · exact rest_come (.inl rfl)
      · exact h
    · exact rest_come h
  · unfold stepS
    split
    · exact h
    · split
      · exact rest_come h
      split
      · exact f
      split
      · split
        · exact f
        · rename_i s' e
          refine rest_come ?_
          unfold leadS at e
          split at e
          · split at e
            · cases e
            · cases e
              exact h
          · split at e
            · cases e
            · cases e
              exact h
      · exact rest_come (h0 _ _)
theorem goS_end_ok {n : Int} (hn : (n.toNat : Int) = n) (ok : RsOk rs n) (sm : SmallR rs) : ∀ (c j : Nat) {s sF : LS} {zs zF : List Nat}, SOk rs n.toNat j s → RestOk s → goS rs c s zs = some (sF, zF) → ∃ j', j' ≤ j + c ∧ SOk rs n.toNat j' sF ∧ RestOk sF := by
  intro c
  induction c with
  | zero =>
    intro j s sF zs zF S r g
    rw [goS] at g
    split at g
    · cases g
    · cases g
      exact ⟨j, Nat.le_refl _, S, r⟩
  | succ c ih =>
    intro j s sF zs zF S r g
    rw [goS] at g
    split at g
    · rename_i hg
      have re : s.rest = "" := by
        unfold goes at hg
        exact of_decide_eq_true (Bool.and_eq_true_iff.mp hg).1
      obtain ⟨j', a, b, c'⟩ := ih (j + 1) (S.next hn ok sm re) (rest_next r) g
      exact ⟨j', by omega, b, c'⟩
    · cases g
      exact ⟨j, by omega, S, r⟩
theorem begin_rest {n : Int} : RestOk (beginS rs n) := rest_come (.inl rfl)
theorem In_.okI {v : Int} (h : In_ 1000 v) : okI v := by
  have e : topN 1000 < ((2 ^ 1920 : Nat) : Int) := by decide +kernel
  unfold In_ at h
  unfold G.okI
  have h2 : v.natAbs < 2 ^ 1920 := by omega
  by_cases z : v.natAbs = 0
  · rw [z]
    decide
  · exact (Nat.log2_lt z).mpr h2
theorem shws_ints : ∀ l : List Int, (∀ v ∈ l, okI v) → shwsE (l.map PyData.int) = true ∧ PyData.depthAll (l.map PyData.int) ≤ 1 ∧ cwsE (l.map PyData.int) ≤ 1932 * l.length
  | [], _ => ⟨rfl, Nat.zero_le _, Nat.le_refl _⟩
  | v :: l, h => by
    obtain ⟨a, b, c⟩ := shws_ints l fun x m => h x (List.mem_cons_of_mem _ m)
    refine ⟨?_, ?_, ?_⟩
    · simp only [List.map_cons, shwsE, shwE, a, Bool.and_true]
      exact decide_eq_true (h v List.mem_cons_self)
    · simp only [List.map_cons, PyData.depthAll, PyData.depth]
      omega
    · simp only [List.map_cons, cwsE, cwE, List.length_cons]
      omega
theorem shws_prs : ∀ l : List (Int × Int), (∀ q ∈ l, okI q.1 ∧ okI q.2) → shwsE (l.map d2) = true ∧ PyData.depthAll (l.map d2) ≤ 3 ∧ cwsE (l.map d2) ≤ 3868 * l.length
  | [], _ => ⟨rfl, Nat.zero_le _, Nat.le_refl _⟩
  | q :: l, h => by
    obtain ⟨a, b, c⟩ := shws_prs l fun x m => h x (List.mem_cons_of_mem _ m)
    obtain ⟨u, v⟩ := h q List.mem_cons_self
    have u' : decide (q.1.natAbs.log2 < 1920) = true := decide_eq_true u
    have v' : decide (q.2.natAbs.log2 < 1920) = true := decide_eq_true v
    refine ⟨?_, ?_, ?_⟩
    · simp only [List.map_cons, d2, shwsE, shwE, a, u', v', Bool.and_self]
    · simp only [List.map_cons, d2, PyData.depthAll, PyData.depth]
      omega
    · simp only [List.map_cons, d2, cwsE, cwE, List.length_cons]
      omega
theorem duD_ok {n : Nat} {j : Nat} (S : SOk rs n j s) (r : RestOk s) (hj : j ≤ 1000) (hn : n ≤ 1000000000000000000) : shwE (duD s) = true ∧ (duD s).depth ≤ 60 ∧ cwE (duD s) ≤ sizeLine := by
  have oc : ∀ v ∈ s.cs, okI v := fun v m => ((S.big v m).le hj).okI
  have ot : ∀ v ∈ s.told, okI v := fun v m => ((S.bigT v m).le hj).okI
  obtain ⟨a1, a2, a3⟩ := shws_ints s.told ot
  obtain ⟨b1, b2, b3⟩ := shws_prs (rle s.cs) (ok_runs oc (by rw [S.len]; exact hn))
  have few := S.few
  have tf := S.tf
  have st : shwE (.str (stateT s)) = true ∧ cwE (.str (stateT s)) ≤ 100 := by
    unfold stateT
    rcases r with e | e | e
    · rw [if_pos e]
      decide +kernel
    · rw [if_neg (by rw [e]; decide +kernel), e]
      decide +kernel
    · rw [if_neg (by rw [e]; decide +kernel), e]
      decide +kernel
  refine ⟨?_, ?_, ?_⟩
  · simp only [duD, shwE, shwsE] at st ⊢
    rw [st.1, a1, b1]
    rfl
  · simp only [duD, PyData.depth, PyData.depthAll]
    omega
  · have e := sizeLine_eq
    have e4 : ∀ s : Str, cwE (.str s) = 10 * s.length + 4 := fun s => rfl
    simp only [duD, cwE, cwsE, e4] at st ⊢
    omega
end

/-! ### one pot -/
section
open PySem PyProof PyProof.Rows PySem.Calls PySem.Spec
variable {X : Cx}
theorem op_mulS : OpR X (binaryOp .Mult) (fun x y H Q => ∃ (z : Str) (n : Int), x = .str z ∧ y = .int n ∧ MulOk z n ∧ Q (.str (Txt.mul z n)) H) := by
  intro pins s σ H x y v u Q I rx ry h
  obtain ⟨z, n, rfl, rfl, hok, q⟩ := h
  obtain ⟨t, rfl⟩ := rx
  obtain ⟨t', rfl⟩ := ry
  exact SB.mul hok (fun t' k => ⟨.str (Txt.mul z n), H, I.tok _, ⟨_, rfl⟩, q⟩)
end
theorem joinL_nil : ∀ ps : List (List Nat), TL.joinL [] ps = ps.flatten
  | [] => by simp [TL.joinL]
  | [p] => by simp [TL.joinL]
  | p :: q :: ps => by
    have e : TL.joinL [] (p :: q :: ps) = p ++ [] ++ TL.joinL [] (q :: ps) := by simp [TL.joinL]
    rw [e, joinL_nil (q :: ps), List.append_nil]
    rfl
theorem join_let {ys : List Str} (h : ∀ y ∈ ys, y = ⟨#[101]⟩ ∨ y = ⟨#[121]⟩) : letS (Txt.join "" ys) = true ∧ (Txt.join "" ys).length = ys.length := by
  have e : TL.tl (Txt.join "" ys) = (ys.map TL.tl).flatten := by
    rw [TL.join_eq, TL.tl_join]
    have e0 : TL.tl (Str.ofString "") = [] := by decide +kernel
    show TL.joinL (TL.tl (Str.ofString "")) _ = _
    rw [e0, joinL_nil]
  constructor
  · unfold letS
    show (TL.tl (Txt.join "" ys)).all _ = true
    rw [e, List.all_eq_true]
    intro c hc
    obtain ⟨l, hl, hc⟩ := List.mem_flatten.mp hc
    obtain ⟨y, hy, rfl⟩ := List.mem_map.mp hl
    rcases h y hy with rfl | rfl
    · have : c = 101 := by simpa [TL.tl] using hc
      rw [this]
      decide
    · have : c = 121 := by simpa [TL.tl] using hc
      rw [this]
      decide
  · rw [TL.len_tl, e]
    clear e
    induction ys with
    | nil => rfl
    | cons y ys ih =>
      rw [List.map_cons, List.flatten_cons, List.length_append, ih fun x m => h x (List.mem_cons_of_mem _ m), List.length_cons]
      have : (TL.tl y).length = 1 := by
        rcases h y List.mem_cons_self with rfl | rfl <;> rfl
      omega
theorem join_sz {ys : List Str} (h : ∀ y ∈ ys, y = ⟨#[101]⟩ ∨ y = ⟨#[121]⟩) : (ys.map fun x => x.length).sum + ys.length * (Str.ofString "").length = ys.length := by
  have e : (Str.ofString "").length = 0 := by decide +kernel
  rw [e, Nat.mul_zero, Nat.add_zero]
  clear e
  induction ys with
  | nil => rfl
  | cons y ys ih =>
    rw [List.map_cons, List.sum_cons, ih fun x m => h x (List.mem_cons_of_mem _ m), List.length_cons]
    have : y.length = 1 := by
      rcases h y List.mem_cons_self with rfl | rfl <;> rfl
    omega
theorem mul_let {n : Int} (h0 : 0 ≤ n) (h1 : n ≤ 6) : MulOk (Str.ofString "e") n ∧ letS (Txt.mul (Str.ofString "e") n) = true ∧ (Txt.mul (Str.ofString "e") n).length ≤ 1000 := by
  have e : n = 0 ∨ n = 1 ∨ n = 2 ∨ n = 3 ∨ n = 4 ∨ n = 5 ∨ n = 6 := by omega
  rcases e with rfl | rfl | rfl | rfl | rfl | rfl | rfl <;> exact ⟨by unfold MulOk; decide +kernel, by decide +kernel, by decide +kernel⟩
theorem cut_let {z : Str} {lo hi : Option Int} (h : letS z = true) (l : z.length ≤ 1000) : letS (cutS z lo hi) = true ∧ (cutS z lo hi).length ≤ 1000 := by
  refine ⟨?_, Nat.le_trans (cutS_length _ _ _) l⟩
  unfold letS at h ⊢
  rw [List.all_eq_true] at h ⊢
  intro c hc
  exact h c (List.mem_of_mem_drop (List.mem_of_mem_take (by simpa [cutS] using hc)))
theorem ints_lay : ∀ l : List Int, PyData.canLayAll0 (l.map PyData.int) = true ∧ PyData.depthAll (l.map PyData.int) ≤ 1
  | [] => ⟨rfl, Nat.zero_le _⟩
  | v :: l => by
    obtain ⟨a, b⟩ := ints_lay l
    refine ⟨?_, ?_⟩
    · simp only [List.map_cons, PyData.canLayAll0, PyData.canLay0, a]
      rfl
    · simp only [List.map_cons, PyData.depthAll, PyData.depth]
      omega
theorem duD_shaped {s : LS} (r : RestOk s) : SeqAt.shaped (duD s) = true := by
  obtain ⟨a, b⟩ := ints_lay s.told
  have c := canLay_pairs (rle s.cs)
  have d := depth_pairs (rle s.cs)
  have st : PyData.canLay0 (.str (stateT s)) = true := by
    unfold stateT
    rcases r with e | e | e
    · rw [if_pos e]
      decide +kernel
    · rw [if_neg (by rw [e]; decide +kernel), e]
      decide +kernel
    · rw [if_neg (by rw [e]; decide +kernel), e]
      decide +kernel
  refine shaped_of ?_ ?_
  · simp only [duD, PyData.canLay0, PyData.canLayAll0] at st ⊢
    rw [st, a, c]
    rfl
  · simp only [duD, PyData.depth, PyData.depthAll]
    omega
theorem duD_de {K : PySem.W.Frag} {H : Hp} {t NL RN : Addr} {s : LS} (h1 : SqT K H t [.str (stateT s), .ref NL, .ref RN]) (h2 : H NL = some (.lst (s.told.map V.int))) (h3 : LD K H RN ((rle s.cs).map d2)) : De K H (.ref t) (duD s) :=
  .tup h1 (.cons (.str _) (.cons (.lst (SqL.of h2) (DpAll.de _ _ (ints_dpa _))) (.cons (Dp.de _ _ h3.dp) .nil)))
theorem goS_nil {rs : List (Str × List Int)} : ∀ {c : Nat} {s sF : LS} {zF : List Nat}, goS rs c s [] = some (sF, zF) → zF = []
  | 0, s, sF, zF, g => by
    rw [goS] at g
    split at g
    · cases g
    · cases g
      rfl
  | c + 1, s, sF, zF, g => by
    rw [goS] at g
    split at g
    · have e : nextZ rs s [] = [] := by
        unfold nextZ
        split <;> rfl
      rw [e] at g
      exact goS_nil g
    · cases g
      rfl
theorem ne_text {s t : Str} (h : s = t) {p q : Prop} {e : Decidable ((!decide (s = t)) = true)} (k : q) : @ite Prop ((!decide (s = t)) = true) e p q := by
  rw [if_neg (by rw [decide_eq_true h]; exact Bool.false_ne_true)]
  exact k
def sp_lright (K : PySem.W.Frag) (CP CM CL : Addr) : Sp := fun vs H Q _ => ∃ (p P R F : Addr) (n : Int) (xs : List V) (rs : List (Str × List Int)), vs = [.ref p, .ref P, .int n, .ref F] ∧ CL ≠ CM ∧ PotAt H p ∧ ProgAt CP H P R n xs ∧ H F = some (.lst xs) ∧ RwAt H xs rs ∧ Plan n rs ∧ P ≠ p ∧ R ≠ p ∧ F ≠ p ∧
  ∀ H', PotAt H' p → Kp [p] H H' → Q (.bl true) H'
theorem sc_law_right : FnScope ["_law_pot_here", "_law_plan_here", "_law_wide", "_law_rows", "_law_trail", "_law_way", "_law_due_here", "_law_told_here", "_law_k"] ["_law_pot_here", "_law_plan_here", "_law_wide", "_law_rows"] (defScope s_law_right) :=
  ⟨rfl, rfl, rfl, by decide +kernel, rfl, by decide +kernel, by decide +kernel⟩
theorem ok_law_right {P : Program} {w : World} {K : PySem.W.Frag} {mg : Str → Option Value} {base : Heap} (T : Txt w K mg) :
    FnG P w K mg base 12 T.a_law_right T.d_law_right ["_law_pot_here", "_law_plan_here", "_law_wide", "_law_rows"] (sp_lright K T.c_Program T.c_Memory T.c_Lone) := by
  refine okD T.F_law_right sc_law_right (fun vs H Q E h => ?_) (fun cdv A outer s H vs Q E hr h => ?_)
  · first
      | (obtain ⟨_, rfl, _⟩ := h; rfl)
      | (obtain ⟨_, _, rfl, _⟩ := h; rfl)
      | (obtain ⟨_, _, _, rfl, _⟩ := h; rfl)
      | (obtain ⟨_, _, _, _, rfl, _⟩ := h; rfl)
      | (obtain ⟨_, _, _, _, _, rfl, _⟩ := h; rfl)
      | (obtain ⟨_, _, _, _, _, _, rfl, _⟩ := h; rfl)
      | (obtain ⟨_, _, _, _, _, _, _, rfl, _⟩ := h; rfl)
      | (obtain ⟨_, _, _, _, _, _, _, _, rfl, _⟩ := h; rfl)
      | (obtain ⟨_, _, _, _, _, _, _, _, _, rfl, _⟩ := h; rfl)
      | (obtain ⟨_, _, _, _, _, _, _, _, _, _, rfl, _⟩ := h; rfl)
      | (obtain ⟨_, _, _, _, _, _, _, _, _, _, _, rfl, _⟩ := h; rfl)
      | (obtain ⟨_, _, _, _, _, _, _, _, _, _, _, _, rfl, _⟩ := h; rfl)
      | (obtain ⟨_, _, _, _, _, _, _, _, _, _, _, _, _, rfl, _⟩ := h; rfl)
      | (obtain ⟨_, _, _, _, _, _, _, _, _, _, _, _, _, _, rfl, _⟩ := h; rfl)
      | (obtain ⟨_, _, _, _, _, _, _, _, _, _, _, _, _, _, _, rfl, _⟩ := h; rfl)
      | (obtain ⟨_, _, _, _, _, _, _, _, _, _, _, _, _, _, _, _, rfl, _⟩ := h; rfl)
      | (obtain ⟨_, _, _, _, _, _, _, _, _, _, _, _, _, _, _, _, _, rfl, _⟩ := h; rfl)
      | (obtain ⟨_, _, _, _, _, _, _, _, _, _, _, _, _, _, _, _, _, _, rfl, _⟩ := h; rfl)
      | (obtain ⟨_, _, _, _, _, _, _, _, _, _, _, _, _, _, _, _, _, _, _, rfl, _⟩ := h; rfl)
  · obtain ⟨p, P, R, F, n, xs, rs, rfl, no, hp, hP, hF, rw0, pl, nP, nR, nF, k⟩ := h
    have lx := rw0.1
    have few := pl.few
    obtain ⟨ok, sm⟩ := pl.rsOk
    have hn := pl.wide
    have hn2 : (n.toNat : Int) = n := Int.toNat_of_nonneg (by omega)
    have big : (1000000 : Nat) ≤ sizeLine := by decide
    have cl_Memory := T.cl_Memory
    have na_Memory_pairs := T.na_Memory_pairs
    have na_Memory_wide := T.na_Memory_wide
    have cl_Lone := T.cl_Lone
    have na_Lone_all_rows := T.na_Lone_all_rows
    have na_Lone_cells := T.na_Lone_cells
    have na_Lone_next_row := T.na_Lone_next_row
    have na_Lone_numbers := T.na_Lone_numbers
    have na_Lone_rested := T.na_Lone_rested
    have cl_Program := T.cl_Program
    have na_Program_own_rows := T.na_Program_own_rows
    have na_Program_own_size := T.na_Program_own_size
    refine ⟨_, (pss_cons (ps_set (i := 4) sc_law_right.nd rfl (Or.inl rfl) (pe_bm PySem.F.plainAttrs_str PySem.F.slot_str_join PySem.F.type_str_join (k_join (K := K) rfl) pe_str (pa_cons (pe_lc (own := [("_law_k", 8)]) (g := (gName 8)) (tt := tYes) rfl sc_law_right.nd (pi_range1 (by rfl) T.n_range (pa_cons (d1 (ok_law_take T) (hr.mono (by decide)) (by rfl) T.m_law_take T.F_law_take.kp T.b_law_take passL (pa_cons (pv 0) (pa_cons pe_int pa_nil))) pa_nil)) (blkOk_by (own := [("_law_k", 8)]) (N := ["_law_pot_here", "_law_plan_here", "_law_wide", "_law_rows", "_law_trail", "_law_way", "_law_due_here", "_law_told_here", "_law_k"]) (sc := defScope s_law_right) (by decide +kernel)) (fun _ _ _ _ _ => (pg_name (i := 8) sc_law_right.nd rfl (Or.inl rfl))) (fun _ _ _ _ _ => pts_nil) (fun _ _ _ _ _ => (pe_ix ix_str pe_str (d1 (ok_law_take T) (hr.mono (by decide)) (by rfl) T.m_law_take T.F_law_take.kp T.b_law_take passL (pa_cons (pv 0) (pa_cons pe_int pa_nil))) (fun _ _ => rfl)))) pa_nil)))
      (pss_cons (ps_for (passes_of rfl) rfl (k_plist (K := K) rfl (pe_lst (pa_cons (pv 4) (pa_cons (pe_op op_mulS pe_str (pe_callB (k_len (K := K) rfl) (by rfl) T.n_len (by decide +kernel) (pa_cons (pv 4) pa_nil))) (pa_cons (pe_slice sl_str (pv 4) po_none (po_some pe_int)) pa_nil))))) (pg_name (i := 5) sc_law_right.nd rfl (Or.inl rfl))
      (pss_cons (ps_par (i := 6) (j := 7) (by rfl) sc_law_right.nd rfl rfl (by decide) rfl rfl (pa_cons (d1 (ok_law_due T) (hr.mono (by decide)) (by rfl) T.m_law_due T.F_law_due.kp T.b_law_due passL (pa_cons (pv 2) (pa_cons (pv 3) (pa_cons (pv 5) pa_nil)))) (pa_cons (d1 (ok_law_told T) (hr.mono (by decide)) (by rfl) T.m_law_told T.F_law_told.kp T.b_law_told passL (pa_cons (pv 1) (pa_cons (pv 5) pa_nil))) pa_nil)) (by rfl))
      (pss_cons (ps_if (pt_cmpR (k_ne (K := K) rfl hr.r.units) (pe_callB (k_reprE (K := K) rfl hr.g hr.r.units) (by rfl) T.n_repr (by decide +kernel) (pa_cons (pv 7) pa_nil)) (pe_callB (k_reprE (K := K) rfl hr.g hr.r.units) (by rfl) T.n_repr (by decide +kernel) (pa_cons (pv 6) pa_nil)) (nomark _)) (pss_one (ps_ret pe_bl)) pss_nil)
      (pss_one (ps_if (pt_cmpR (k_ne (K := K) rfl hr.r.units) (pv 7) pe_str (nomark _)) (pss_cons (ps_expr (pe_bm PySem.F.plainAttrs_list PySem.F.slot_list_append PySem.F.type_list_append mt_append (pe_ix (k_ix (K := K) rfl) (pv 7) pe_int (fun _ _ => rfl)) (pa_cons pe_non pa_nil)))
      (pss_cons (ps_expr (pe_bm0 PySem.F.plainAttrs_list PySem.F.slot_list_clear PySem.F.type_list_clear mt_clear (pe_ix (k_ix (K := K) rfl) (pv 7) pe_int (fun _ _ => rfl))))
      (pss_one (ps_if (pt_cmpR (k_ne (K := K) rfl hr.r.units) (pe_callB (k_reprE (K := K) rfl hr.g hr.r.units) (by rfl) T.n_repr (by decide +kernel) (pa_cons (kc0 (ok_gone_alone T) (hr.mono (by decide)) (by rfl) T.m_gone_alone T.F_gone_alone.kp T.kb_gone_alone_0_path_program passL (pk_cons (pv 5) (pk_cons (pv 1) pk_nil))) pa_nil)) (pe_callB (k_reprE (K := K) rfl hr.g hr.r.units) (by rfl) T.n_repr (by decide +kernel) (pa_cons (pv 6) pa_nil)) (nomark _)) (pss_one (ps_ret pe_bl)) pss_nil)))) pss_nil)))))
      (pss_one (ps_ret (pe_and (pe_cmpR (k_eq (K := K) rfl hr.r.units) (dm0 T.cl_Program T.me_Program_rows (ok_Program_rows T) (hr.mono (by decide)) T.b_Program_rows passL (pv 1)) (pv 3) (nomark _)) (pe_one (pe_cmpR (k_eq (K := K) rfl hr.r.units) (dm0 T.cl_Program T.me_Program_size (ok_Program_size T) (hr.mono (by decide)) T.b_Program_size passL (pv 1)) (pv 2) (nomark _)))))))), ?_⟩
    dsimp only [cxOf, st_1, st_2, st_3, st_4, st_5, st_6, List.length_cons, List.length_nil, List.replicate_succ, List.replicate_zero, Nat.reduceAdd, Nat.reduceSub]
    walk_at "gs"
    refine ⟨rfl, ?_⟩
    walk_at "gs"
    refine use_take hp (by decide) (by decide) (fun m H1 m0 m1 hp1 k1 => ?_)
    walk_at "gs"
    refine i_reps m0 (by omega) (fun D i H' => PotAt H' p ∧ Kp [p] H H' ∧ ∃ ys : List Str, H' D = some (.lst (ys.map V.str)) ∧ ys.length = i ∧ ∀ y ∈ ys, y = ⟨#[101]⟩ ∨ y = ⟨#[121]⟩) ?_ ?_ ?_
    · intro D fD
      exact ⟨hp1.kp (Kp.new fD (ws := [])) not_nil, Kp.trans k1 (Kp.new fD), [], upd_same, rfl, fun _ h => (nomatch h)⟩
    · rintro D i H2 fD hi ⟨hp2, k2, ys, hD2, ly, my⟩
      have nDp : D ≠ p := Ne.symm (hp1.ne fD)
      walk_at "gs"
      refine use_take hp2 (by decide) (by decide) (fun r H3 r0 r1 hp3 k3 => ?_)
      have hD3 := k3.at_ _ _ hD2 (not_one nDp)
      obtain ⟨c, hc, hc2⟩ : ∃ c : Nat, atI (Str.ofString "ey").cps.toList r = some c ∧ ((⟨#[c]⟩ : Str) = ⟨#[101]⟩ ∨ (⟨#[c]⟩ : Str) = ⟨#[121]⟩) := by
        obtain ⟨r', rfl⟩ := Int.eq_ofNat_of_zero_le r0
        have e : r' = 0 ∨ r' = 1 := by omega
        rcases e with rfl | rfl
        · exact ⟨101, by decide +kernel, .inl rfl⟩
        · exact ⟨121, by decide +kernel, .inr rfl⟩
      walk_at "gs"
      refine ⟨_, _, c, rfl, rfl, by decide, hc, ?_⟩
      have kl : Kp [D] H3 (upd H3 D (.lst (ys.map V.str ++ [.str ⟨#[c]⟩]))) := kp_set hD3 (fun z => z)
      walk_at "gs"
      refine ⟨_, hD3, small_sz (by rw [List.length_map]; omega), hp3.kp kl (not_one (Ne.symm nDp)), Kp.upd (Kp.trans k2 k3) (k1.free fD), ys ++ [⟨#[c]⟩], ?_, by rw [List.length_append, List.length_singleton]; omega, fun y hy => ?_⟩
      · rw [List.map_append]
        exact upd_same
      · rcases List.mem_append.mp hy with h | h
        · exact my y h
        · rw [List.mem_singleton.mp h]
          exact hc2
    rintro D H2 fD ⟨hp2, k2, ys, hD2, ly, my⟩
    walk_at "gs"
    obtain ⟨tr, etr, ltr, lentr⟩ : ∃ tr, Txt.join (Str.ofString "") ys = tr ∧ letS tr = true ∧ (tr.length : Int) ≤ 6 := ⟨_, rfl, (join_let my).1, by rw [show (Txt.join (Str.ofString "") ys).length = ys.length from (join_let my).2]; omega⟩
    refine ⟨Str.ofString "", D, ys, rfl, rfl, .inl (SqL.of hD2), ?_, ?_⟩
    · rw [join_sz my]
      omega
    rw [etr]
    walk_at "gs"
    refine i_lenS (by omega) ?_
    walk_at "gs"
    obtain ⟨mo, ml, mn⟩ := mul_let (n := (tr.length : Nat)) (by omega) lentr
    refine ⟨_, _, rfl, rfl, mo, ?_⟩
    walk_at "gs"
    refine ⟨tr, rfl, by omega, ?_⟩
    walk_at "gs"
    refine i_new fun L fL => ?_
    obtain ⟨cl, cn⟩ := cut_let (lo := none) (hi := some 1) ltr (show tr.length ≤ 1000 by omega)
    obtain ⟨H3, e3⟩ : ∃ H3, H3 = upd H2 L (.lst [.str tr, .str (Txt.mul (Str.ofString "e") (tr.length : Nat)), .str (cutS tr none (some 1))]) := ⟨_, rfl⟩
    have k23 : Kp [] H2 H3 := by
      rw [e3]
      exact Kp.new fL
    have hL3 : H3 L = some (.lst [.str tr, .str (Txt.mul (Str.ofString "e") (tr.length : Nat)), .str (cutS tr none (some 1))]) := by
      rw [e3]
      exact upd_same
    walk_at "gs"
    rw [← e3]
    obtain ⟨z2, ez2⟩ : ∃ z2, z2 = Txt.mul (Str.ofString "e") (tr.length : Nat) := ⟨_, rfl⟩
    obtain ⟨z3, ez3⟩ : ∃ z3, z3 = cutS tr none (some 1) := ⟨_, rfl⟩
    rw [← ez2] at ml mn hL3
    rw [← ez3] at cl cn hL3
    have k03 : Kp [p] H H3 := Kp.trans k2 k23.wide
    have hp3 := hp2.kp k23 not_nil
    have hF3 := k03.at_ _ _ hF (not_one nF)
    have hP3 : ProgAt T.c_Program H3 P R n xs := hP.kp k03 (not_one nP) (not_one nR)
    have rw3 := rw0.kp k03
    refine i_each (SqL.of hL3) (fun i σ H' => ∃ o5 o6 o7 : Option V, σ = [some (.ref p), some (.ref P), some (.int n), some (.ref F), some (.str tr), o5, o6, o7, none] ∧ Kp [] H3 H') ?_ ?_ ?_ ?_
    · exact ⟨_, _, _, rfl, Kp.refl⟩
    · rintro i σ H' _ ⟨o5, o6, o7, rfl, k'⟩
      exact k'.seqL not_nil (SqL.of hL3)
    · rintro i x σ H4 hx ⟨o5, o6, o7, rfl, k4⟩
      obtain ⟨z, rfl, lt, lz⟩ : ∃ z, x = .str z ∧ letS z = true ∧ z.length ≤ 1000 := by
        match i, hx with
        | 0, hx => exact ⟨tr, (Option.some.inj hx).symm, ltr, by omega⟩
        | 1, hx => exact ⟨z2, (Option.some.inj hx).symm, ml, mn⟩
        | 2, hx => exact ⟨z3, (Option.some.inj hx).symm, cl, cn⟩
      obtain ⟨⟨sF, zF⟩, go⟩ := pl.ends z.cps.toList
      have hF4 := k4.at_ _ _ hF3 not_nil
      have rw4 := rw3.kp k4
      walk_at "gs"
      refine ⟨F, n, xs, rs, z, sF, zF, rfl, hF4, rw4, ⟨by omega, hn.2⟩, ok, sm, by omega, lz, go, fun ne H5 k5 => ?_, fun e t Td Rw H5 k5 ht hTd lRw => ?_⟩
      · have k35 := Kp.trans k4 k5
        walk_at "gs"
        refine ⟨P, R, n, xs, rs, z, sF, zF, rfl, no, hP3.kp0 k35, (rw3.kp k35).dpa, ⟨by omega, hn.2⟩, ok, sm, by omega, lz, lt, go, fun _ H6 k6 => ?_, fun e => absurd e ne⟩
        have k36 := Kp.trans k35 k6
        walk_at "gs"
        refine i_reprE (.str _) (by decide +kernel) (by decide) (by decide +kernel) ?_
        obtain ⟨T1, eT1⟩ : ∃ T1, T1 = (PyData.str (Str.ofString "left")).shown := ⟨_, rfl⟩
        rw [← eT1]
        walk_at "gs"
        refine i_reprE (.str _) (by decide +kernel) (by decide) (by decide +kernel) ?_
        rw [← eT1]
        walk_at "gs"
        exact ⟨_, _, _, rfl, k36⟩
      · obtain ⟨j', jl, S, re⟩ := goS_end_ok hn2 ok sm 1000 0 (begin_ok (by omega)) begin_rest go
        obtain ⟨d1, d2', d3⟩ := duD_ok S re (by omega) (by omega)
        have few := S.few
        have tf := S.tf
        have k35 := Kp.trans k4 k5
        walk_at "gs"
        refine ⟨P, R, n, xs, rs, z, sF, zF, rfl, no, hP3.kp0 k35, (rw3.kp k35).dpa, ⟨by omega, hn.2⟩, ok, sm, by omega, lz, lt, go, fun ne => absurd e ne, fun _ t2 NL RN H6 ft fN fR nn k6 ht2 hN lR => ?_⟩
        have k36 := Kp.trans k35 k6
        have ht6 := k6.seqT ht
        have hTd6 := k6.at_ _ _ hTd not_nil
        have lRw6 := lRw.kp k6 (imms_d2 _) not_nil
        obtain ⟨T1, eT1⟩ : ∃ T1, T1 = (duD sF).shown := ⟨_, rfl⟩
        walk_at "gs"
        refine i_reprE (duD_de ht2 hN lR) d1 d2' d3 ?_
        rw [← eT1]
        walk_at "gs"
        refine i_reprE (duD_de ht6 hTd6 lRw6) d1 d2' d3 ?_
        rw [← eT1]
        walk_at "gs"
        have dl : Dp K H6 (.ref t2) (duD sF) := .tup ht2 (.cons (.str _) (.cons (.lst (SqL.of hN) (ints_dpa _)) (.cons lR.dp .nil)))
        refine i_neD (e := .str (Str.ofString "left")) dl (.str _) (duD_shaped re) (by decide +kernel) ?_
        rw [show PyData.eqv (duD sF) (.str (Str.ofString "left")) = false from rfl]
        walk_at "gs"
        refine i_app hN (small_sz (by rw [List.length_map]; omega)) ?_
        obtain ⟨H7, e7⟩ : ∃ H7, H7 = upd H6 NL (.lst (sF.told.map V.int ++ [.non])) := ⟨_, rfl⟩
        have k67 : Kp [NL] H6 H7 := by
          rw [e7]
          exact kp_set hN (fun z => z)
        rw [← e7]
        have ht27 := k67.seqT ht2
        obtain ⟨ys, hRN, _⟩ := id lR
        have hRN7 := k67.at_ _ _ hRN (not_one (Ne.symm nn))
        walk_at "gs"
        refine ⟨RN, ys, rfl, rfl, hRN7, ?_⟩
        obtain ⟨H8, e8⟩ : ∃ H8, H8 = upd H7 RN (.lst []) := ⟨_, rfl⟩
        have k78 : Kp [RN] H7 H8 := by
          rw [e8]
          exact kp_set hRN7 (fun z => z)
        rw [← e8]
        have k68 : Kp [NL, RN] H6 H8 := Kp.trans (k67.mono fun b hb => by rw [List.mem_singleton.mp hb]; exact List.mem_cons_self) (k78.mono fun b hb => by rw [List.mem_singleton.mp hb]; exact List.mem_cons_of_mem _ List.mem_cons_self)
        have k58 : Kp [] H5 H8 := (Kp.trans k6.wide k68).dropAll fun b hb => by
          simp only [List.mem_cons, List.not_mem_nil, or_false] at hb
          rcases hb with rfl | rfl
          · exact .inr fN
          · exact .inr fR
        have k38 := Kp.trans k35 k58
        have ht8 := k58.seqT ht
        have hTd8 := k58.at_ _ _ hTd not_nil
        have lRw8 := lRw.kp k58 (imms_d2 _) not_nil
        walk_at "gs"
        refine ⟨P, R, n, xs, rs, z, 1000, sF, zF, rfl, no, hP3.kp0 k38, (rw3.kp k38).dpa, ⟨by omega, hn.2⟩, ok, sm, by omega, lz, lt, Nat.le_refl _, go, fun ne => absurd e ne, fun _ t3 N3 R3 H9 f3 fN3 fR3 n3 k9 ht3 hN3 lR3 => ?_⟩
        have ht9 := k9.seqT ht8
        have hTd9 := k9.at_ _ _ hTd8 not_nil
        have lRw9 := lRw8.kp k9 (imms_d2 _) not_nil
        walk_at "gs"
        refine i_reprE (duD_de ht3 hN3 lR3) d1 d2' d3 ?_
        rw [← eT1]
        walk_at "gs"
        refine i_reprE (duD_de ht9 hTd9 lRw9) d1 d2' d3 ?_
        rw [← eT1]
        walk_at "gs"
        exact ⟨_, _, _, rfl, Kp.trans k38 k9⟩
    rintro σ H4 ⟨o5, o6, o7, rfl, k4⟩
    have hF4 := k4.at_ _ _ hF3 not_nil
    have rw4 := rw3.kp k4
    have hP4 := hP3.kp0 k4
    obtain ⟨dP, hP4', hR4⟩ := id hP4
    walk_at "gs"
    refine ⟨P, R, n, xs, rfl, hP4, fun M fM => ?_⟩
    have kM : Kp [] H4 (upd H4 M (.lst xs)) := Kp.new fM
    obtain ⟨H5, e5⟩ : ∃ H5, H5 = upd H4 M (.lst xs) := ⟨_, rfl⟩
    have hM5 : H5 M = some (.lst xs) := by
      rw [e5]
      exact upd_same
    rw [← e5] at kM ⊢
    have hF5 := kM.at_ _ _ hF4 not_nil
    have hP5 := hP4.kp0 kM
    obtain ⟨dP5, hP5', hR5⟩ := id hP5
    have da5 : DpAll K H5 xs (rs.map rowD) := (rw4.kp kM).dpa
    have rows : ∀ d ∈ rs.map rowD, Row n rs.length d := fun d hd => by
      obtain ⟨r, hr2, rfl⟩ := List.mem_map.mp hd
      exact (pl.rows r hr2).1
    obtain ⟨la, lb⟩ := rows_lay rows
    walk_at "gs"
    refine eq_same (d := .list (rs.map rowD)) (.lst (SqL.of hM5) da5) (.lst (SqL.of hF5) da5) (shaped_of (by simp only [PyData.canLay0]; exact la) (by simp only [PyData.depth]; omega)) ?_
    walk_at "gs"
    refine ⟨P, R, n, xs, rfl, hP5, ?_⟩
    walk_at "gs"
    rw [show decide (n = n) = true from decide_eq_true rfl]
    exact k H5 (hp3.kp (Kp.trans k4 kM) not_nil) (Kp.trans k03 (Kp.trans k4 kM).wide)

/-- two classes whose __init__ are unlike defs -/
theorem cls_ne {K : PySem.W.Frag} {C D f g : Addr} {x1 q1 x2 q2 : Str} {p1 p2 : Arguments} {b1 b2 : List Stmt} {s1 s2 : Scope} {v1 v2 : List V} {k1 k2 : List (Str × V)} {d1 d2 : FuncData} (m1 : L2.Mk K C f) (m2 : L2.Mk K D g)
    (F1 : L2.FunD K x1 q1 p1 b1 s1 v1 k1 f d1) (F2 : L2.FunD K x2 q2 p2 b2 s2 v2 k2 g d2) (hq : q1 ≠ q2) : C ≠ D := by
  intro e
  subst e
  have h := m1.init
  rw [m2.init] at h
  injection h with h
  injection h with h
  injection h with h
  subst h
  obtain ⟨_, _, _, _, _, _, _, _, _, _, e1, l1, _⟩ := F1.ex
  obtain ⟨_, _, _, _, _, _, _, _, _, _, e2, l2, _⟩ := F2.ex
  rw [l1] at l2
  injection l2 with l2
  have e3 : d1 = d2 := by
    injection l2 with _ _ l2 _
    injection l2
  rw [e1, e2] at e3
  unfold PySem.W.fnOf at e3
  injection e3
  exact hq (by assumption)
def sp_law (K : PySem.W.Frag) : Sp := fun vs H Q _ => ∃ (a : Addr) (ns : List Int),
  vs = [.ref a] ∧ SqL K H a (ns.map V.int) ∧ ns.length ≤ 63 ∧ ∀ H', Q (.bl true) H'
theorem sc_law : FnScope ["_law_script", "_law_k", "_law_pot_here", "_law_wide", "_law_rows", "_law_plan_here", "_law_turn_here"] ["_law_script"] (defScope s_law) :=
  ⟨rfl, rfl, rfl, by decide +kernel, rfl, by decide +kernel, by decide +kernel⟩
theorem ok_law {P : Program} {w : World} {K : PySem.W.Frag} {mg : Str → Option Value} {base : Heap} (T : Txt w K mg) :
    FnG P w K mg base 13 T.a_law T.d_law ["_law_script"] (sp_law K) := by
  refine okD T.F_law sc_law (fun vs H Q E h => ?_) (fun cdv A outer s H vs Q E hr h => ?_)
  · first
      | (obtain ⟨_, rfl, _⟩ := h; rfl)
      | (obtain ⟨_, _, rfl, _⟩ := h; rfl)
      | (obtain ⟨_, _, _, rfl, _⟩ := h; rfl)
      | (obtain ⟨_, _, _, _, rfl, _⟩ := h; rfl)
      | (obtain ⟨_, _, _, _, _, rfl, _⟩ := h; rfl)
      | (obtain ⟨_, _, _, _, _, _, rfl, _⟩ := h; rfl)
      | (obtain ⟨_, _, _, _, _, _, _, rfl, _⟩ := h; rfl)
      | (obtain ⟨_, _, _, _, _, _, _, _, rfl, _⟩ := h; rfl)
      | (obtain ⟨_, _, _, _, _, _, _, _, _, rfl, _⟩ := h; rfl)
      | (obtain ⟨_, _, _, _, _, _, _, _, _, _, rfl, _⟩ := h; rfl)
      | (obtain ⟨_, _, _, _, _, _, _, _, _, _, _, rfl, _⟩ := h; rfl)
      | (obtain ⟨_, _, _, _, _, _, _, _, _, _, _, _, rfl, _⟩ := h; rfl)
      | (obtain ⟨_, _, _, _, _, _, _, _, _, _, _, _, _, rfl, _⟩ := h; rfl)
      | (obtain ⟨_, _, _, _, _, _, _, _, _, _, _, _, _, _, rfl, _⟩ := h; rfl)
      | (obtain ⟨_, _, _, _, _, _, _, _, _, _, _, _, _, _, _, rfl, _⟩ := h; rfl)
      | (obtain ⟨_, _, _, _, _, _, _, _, _, _, _, _, _, _, _, _, rfl, _⟩ := h; rfl)
      | (obtain ⟨_, _, _, _, _, _, _, _, _, _, _, _, _, _, _, _, _, rfl, _⟩ := h; rfl)
      | (obtain ⟨_, _, _, _, _, _, _, _, _, _, _, _, _, _, _, _, _, _, rfl, _⟩ := h; rfl)
      | (obtain ⟨_, _, _, _, _, _, _, _, _, _, _, _, _, _, _, _, _, _, _, rfl, _⟩ := h; rfl)
  · obtain ⟨s, ns, rfl, hsq, hns, k⟩ := h
    have no : T.c_Lone ≠ T.c_Memory := cls_ne T.mk_Lone T.mk_Memory T.F_Lone_init T.F_Memory_init (by decide +kernel)
    refine ⟨_, (pss_cons (ps_for (passes_of rfl) rfl (pi_range1 (by rfl) T.n_range (pa_cons (pe_callB (c_max2 rfl) (by rfl) T.n_max (by decide +kernel) (pa_cons pe_int (pa_cons (pe_callB (c_min2 rfl) (by rfl) T.n_min (by decide +kernel) (pa_cons pe_int (pa_cons (pe_callB (k_len (K := K) rfl) (by rfl) T.n_len (by decide +kernel) (pa_cons (pv 0) pa_nil)) pa_nil))) pa_nil))) pa_nil)) (pg_name (i := 1) sc_law.nd rfl (Or.inl rfl))
      (pss_cons (ps_set (i := 2) sc_law.nd rfl (Or.inl rfl) (d1 (ok_law_pot T) (hr.mono (by decide)) (by rfl) T.m_law_pot T.F_law_pot.kp T.b_law_pot passL (pa_cons (pv 0) (pa_cons (pv 1) pa_nil))))
      (pss_cons (ps_asg (d1 (ok_law_plan T) (hr.mono (by decide)) (by rfl) T.m_law_plan T.F_law_plan.kp T.b_law_plan passL (pa_cons (pv 2) (pa_cons pe_int pa_nil))) (k_gtup (K := K) 2 rfl rfl (pgs_cons (pg_name (i := 3) sc_law.nd rfl (Or.inl rfl)) (pgs_cons (pg_name (i := 4) sc_law.nd rfl (Or.inl rfl)) pgs_nil))))
      (pss_cons (ps_set (i := 5) sc_law.nd rfl (Or.inl rfl) (mkX T.mk_Program (ok_Program_init T) (hr.mono (by decide)) (by rfl) T.mg_Program T.b_Program_init (passAt (takes_of rfl rfl rfl rfl)) (pa_cons (pv 3) (pa_cons (pe_callTy (k_list (K := K) rfl) (by rfl) T.n_list (by decide +kernel) (pa_cons (pv 4) pa_nil)) pa_nil))))
      (pss_cons (ps_for (passes_of rfl) rfl (pi_range1 (by rfl) T.n_range (pa_cons pe_int pa_nil)) (pg_name (i := 6) sc_law.nd rfl (Or.inl rfl))
      (pss_one (ps_if (pt_not (pt_val (d1 (ok_law_right T) (hr.mono (by decide)) (by rfl) T.m_law_right T.F_law_right.kp T.b_law_right passL (pa_cons (pv 2) (pa_cons (pv 5) (pa_cons (pv 3) (pa_cons (pv 4) pa_nil))))))) (pss_one (ps_ret pe_bl)) pss_nil)))
      (pss_one (ps_if (pt_cmpR (k_ne (K := K) rfl hr.r.units) (pe_callB (k_reprE (K := K) rfl hr.g hr.r.units) (by rfl) T.n_repr (by decide +kernel) (pa_cons (s1 (ok_gone_alone T) (hr.mono (by decide)) (by rfl) T.m_gone_alone T.F_gone_alone.kp T.b_gone_alone (passAt (takes_of rfl rfl rfl rfl)) (pa_cons (pv 5) (pa_cons pe_str pa_nil))) pa_nil)) (pe_callB (k_reprE (K := K) rfl hr.g hr.r.units) (by rfl) T.n_repr (by decide +kernel) (pa_cons (d1 (ok_law_due T) (hr.mono (by decide)) (by rfl) T.m_law_due T.F_law_due.kp T.b_law_due passL (pa_cons (pv 3) (pa_cons (pv 4) (pa_cons pe_str pa_nil)))) pa_nil)) (nomark _)) (pss_one (ps_ret pe_bl)) pss_nil)))))))
      (pss_one (ps_ret pe_bl))), ?_⟩
    dsimp only [cxOf, st_1, st_2, st_3, st_4, st_5, st_6, List.length_cons, List.length_nil, List.replicate_succ, List.replicate_zero, Nat.reduceAdd, Nat.reduceSub]
    walk_at "gs"
    rw [List.length_map]
    refine i_turns (by omega) (by omega) (fun i σ H' => ∃ o1 o2 o3 o4 o5 o6 : Option V, σ = [some (.ref s), o1, o2, o3, o4, o5, o6] ∧ Kp [] H H') ?_ ?_ ?_
    · exact ⟨_, _, _, _, _, _, rfl, Kp.refl⟩
    · rintro i σ H1 hi ⟨o1, o2, o3, o4, o5, o6, rfl, k1⟩
      walk_at "gs"
      refine ⟨s, ns, i, rfl, k1.seqL not_nil hsq, by omega, fun p H2 fp k2 hp2 => ?_⟩
      walk_at "gs"
      refine ⟨p, 14, rfl, hp2, by decide, fun t F n xs rs H3 st fF hF rw3 pl hp3 k3 => ?_⟩
      have nF : F ≠ p := Ne.symm (hp2.ne fF)
      walk_at "gs"
      have lx := rw3.1
      have few := pl.few
      have hn := pl.wide
      have hn2 : (n.toNat : Int) = n := Int.toNat_of_nonneg (by omega)
      obtain ⟨ok, sm⟩ := pl.rsOk
      have rows : ∀ d ∈ rs.map rowD, Row n (rs.map rowD).length d := fun d hd => by
        obtain ⟨r, hr2, rfl⟩ := List.mem_map.mp hd
        rw [List.length_map]
        exact (pl.rows r hr2).1
      refine i_mkX ?_
      walk_at "gs"
      refine i_new fun L fL => ?_
      have kL : Kp [] H3 (upd H3 L (.lst xs)) := Kp.new fL
      have hL : (upd H3 L (.lst xs)) L = some (.lst xs) := upd_same
      obtain ⟨H4, e4⟩ : ∃ H4, H4 = upd H3 L (.lst xs) := ⟨_, rfl⟩
      rw [← e4] at kL hL
      first | rw [← e4] | (show _; rw [← e4])
      have hp4 := hp3.kp kL not_nil
      have rw4 := rw3.kp kL
      have w1 : whD (.int n) 1 1000000000000000000 = true := decide_eq_true ⟨by omega, hn.2⟩
      have b1 : badAt (rs.map rowD) n = none := bad_none fun d hd => (rows d hd).choose_spec.choose_spec.2.2.2.1
      walk_at "gs"
      refine mk_prog hL (rowsV_of rw4.dpa rows) (by omega) w1 b1 fun P R H5 fP fR nPR k5 PM => ?_
      have nP : P ≠ p := Ne.symm (hp4.ne fP)
      have nR : R ≠ p := Ne.symm (hp4.ne fR)
      have k45 := Kp.trans kL k5
      have k25 : Kp [p] H2 H5 := Kp.trans k3 k45.wide
      have hF5 := k45.at_ _ _ hF not_nil
      have rw5 := rw4.kp k5
      have hp5 := hp4.kp k5 not_nil
      have out : ∀ H6, Kp [p] H5 H6 → Kp [] H H6 := fun H6 k6 => Kp.drop (Kp.trans (Kp.trans k1 k2).wide (Kp.trans k25 k6)) (k1.free fp)
      walk_at "gs"
      refine i_turns (by decide) (by decide) (fun iq σ H' => ∃ o6 : Option V, σ = [some (.ref s), some (.int i), some (.ref p), some (.int n), some (.ref F), some (.ref P), o6] ∧ PotAt H' p ∧ Kp [p] H5 H') ?_ ?_ ?_
      · exact ⟨_, rfl, hp5, Kp.refl⟩
      · rintro iq σ H6 hiq ⟨o6, rfl, hp6, k6⟩
        walk_at "gs"
        refine ⟨p, P, R, F, n, xs, rs, rfl, no, hp6, PM.kp k6 (not_one nP) (not_one nR), k6.at_ _ _ hF5 (not_one nF), rw5.kp k6, pl, nP, nR, nF, fun H7 hp7 k7 => ?_⟩
        walk_at "gs"
        exact ⟨_, rfl, hp7, Kp.trans k6 k7⟩
      rintro σ H6 ⟨o6, rfl, hp6, k6⟩
      have PM6 := PM.kp k6 (not_one nP) (not_one nR)
      have hF6 := k6.at_ _ _ hF5 (not_one nF)
      have rw6 := rw5.kp k6
      obtain ⟨⟨sF, zF⟩, go⟩ := pl.ends (Str.ofString "").cps.toList
      have eN : (Str.ofString "").cps.toList = [] := by decide +kernel
      have e0 : zF = [] := goS_nil (by rw [← eN]; exact go)
      obtain ⟨j', jl, S, re⟩ := goS_end_ok hn2 ok sm 1000 0 (begin_ok (by omega)) begin_rest go
      obtain ⟨d1, d2', d3⟩ := duD_ok S re (by omega) (by omega)
      obtain ⟨T1, eT1⟩ : ∃ T1, T1 = (duD sF).shown := ⟨_, rfl⟩
      have le : (Str.ofString "").length ≤ 1000 := by decide +kernel
      walk_at "gs"
      refine ⟨P, R, n, xs, rs, Str.ofString "", 1000, sF, zF, rfl, no, PM6, rw6.dpa, ⟨by omega, hn.2⟩, ok, sm, by omega, le, by decide +kernel, Nat.le_refl _, go, fun ne => absurd e0 ne, fun _ t3 N3 R3 H7 f3 fN3 fR3 n3 k7 ht3 hN3 lR3 => ?_⟩
      walk_at "gs"
      refine i_reprE (duD_de ht3 hN3 lR3) d1 d2' d3 ?_
      rw [← eT1]
      walk_at "gs"
      refine ⟨F, n, xs, rs, Str.ofString "", sF, zF, rfl, k7.at_ _ _ hF6 not_nil, rw6.kp k7, ⟨by omega, hn.2⟩, ok, sm, by omega, le, go, fun ne => absurd e0 ne, fun _ t4 Td Rw H8 k8 ht hTd lRw => ?_⟩
      walk_at "gs"
      refine i_reprE (duD_de ht hTd lRw) d1 d2' d3 ?_
      rw [← eT1]
      walk_at "gs"
      exact ⟨_, _, _, _, _, _, rfl, out _ (Kp.trans k6 (Kp.trans k7 k8).wide)⟩
    rintro σ H' ⟨o1, o2, o3, o4, o5, o6, rfl, k1⟩
    walk_at "gs"
    exact k _
theorem law_end {K : PySem.W.Frag} {H : Hp} {a : Addr} {ns : List Int} (hl : ns.length ≤ 63)
    (_ : ∀ z ∈ ns, Builtin.Int.intBits z ≤ 1048576) (_ : Only H) (hs : SqL K H a (ns.map V.int)) :
    sp_law K [.ref a] H (fun v _ => v = .bl true) fun _ _ _ => False :=
  ⟨a, ns, rfl, hs, hl, fun _ => rfl⟩

/-- the end of a law row over a head by facts, the script's bits told -/
theorem walkH {l : PySem.W.OpenLaw} {n k : Nat} {q : Program} {loose : List Str}
    {XP : (Str → Option Value) → Heap → Prop} {YP : World → Heap → Prop} {d : DefRec}
    {sp : PySem.W.Frag → Sp} {x : Str} (hn : l.most = some n)
    (hn2 : n ≤ PySem.sizeLine) (hdf : d.params.defaults = []) (hr : Room k PySem.callerA)
    (F : ∀ (w : World) (mg : Str → Option Value) (fa : Addr) (h : Heap), YP w h →
      h.Ns mainGlobals mg → mg d.name = some (.ref fa) →
      ∃ (K : PySem.W.Frag) (fd : FuncData), K.In h ∧ (∀ (s : Shared) (u : Value), BindsTo s fd ⟨[u], []⟩ [(x, u)]) ∧
        ∀ base : Heap, K.In base → base.Ns mainGlobals mg →
          FnG l.prog w K mg base k fa fd [x] (sp K))
    (hsp : ∀ (K : PySem.W.Frag) (H : Hp) (a : Addr) (ns : List Int), ns.length ≤ n →
      (∀ z ∈ ns, Builtin.Int.intBits z ≤ 1048576) → Only H → SqL K H a (ns.map V.int) →
      sp K [.ref a] H (fun v _ => v = .bl true) fun _ _ _ => False) :
    PySem.W.WalkO q loose XP YP l.row.toRowW d [] (fun f vs => PySem.call f vs) := by
  refine Att.attach_callB hn hdf ?_
  intro w s0 s1 mg mb fa o pm cd doc a vs ns T Y ho hd hcd hmg hobj hints hlen hbits hg
  obtain ⟨K, fd, kin, hb, hF⟩ := F w mg fa _ Y T.T.g hmg
  exact lawG kin T.T.g T.T.b T.T.builtins T.T.nolimit hg hobj hints (Nat.le_trans hlen hn2)
    ⟨hr, rfl⟩ hF hb (fun H hO hS => hsp _ H a ns hlen hbits hO hS)

theorem all_mkH {P : Program} {w : World} {K : PySem.W.Frag} {h : Heap} {mg : Str → Option Value} {fa : Addr} (X : K.In h) (G : h.Ns mainGlobals mg) (hfa : mg "law" = some (.ref fa)) (c : He.SaysD [] fnH K) (e : exH K = true) (eD : dicsH K = dvalH w.params) :
    ∃ fd : FuncData, (∀ (s : Shared) (v : Value), BindsTo s fd ⟨[v], []⟩ [("_law_script", v)]) ∧
      ∀ base : Heap, K.In base → base.Ns mainGlobals mg →
        FnG P w K mg base 13 fa fd ["_law_script"] (sp_law K) := by
  obtain ⟨e0, e⟩ := He.ba e
  obtain ⟨e1, e⟩ := He.ba e
  obtain ⟨e2, e⟩ := He.ba e
  obtain ⟨e3, e⟩ := He.ba e
  obtain ⟨e4, e⟩ := He.ba e
  obtain ⟨e5, e⟩ := He.ba e
  obtain ⟨e6, e⟩ := He.ba e
  obtain ⟨e7, e⟩ := He.ba e
  obtain ⟨e8, e⟩ := He.ba e
  obtain ⟨e9, e⟩ := He.ba e
  obtain ⟨e10, e⟩ := He.ba e
  obtain ⟨e11, e⟩ := He.ba e
  obtain ⟨e12, e⟩ := He.ba e
  obtain ⟨e13, e⟩ := He.ba e
  obtain ⟨e14, e⟩ := He.ba e
  have e15 := e
  obtain ⟨h_wall, e0⟩ := He.ba e0
  obtain ⟨h_is_number, e0⟩ := He.ba e0
  obtain ⟨h_is_whole, e0⟩ := He.ba e0
  obtain ⟨h_is_size, e0⟩ := He.ba e0
  obtain ⟨h_is_run, e0⟩ := He.ba e0
  obtain ⟨h_are_runs, e0⟩ := He.ba e0
  obtain ⟨h_joined, e0⟩ := He.ba e0
  obtain ⟨h_cut_out, e0⟩ := He.ba e0
  obtain ⟨h_want_size, e0⟩ := He.ba e0
  obtain ⟨h_want_number, e0⟩ := He.ba e0
  obtain ⟨h_want_cell, e0⟩ := He.ba e0
  have h_want_stretch := e0
  obtain ⟨h_Memory_size, e1⟩ := He.ba e1
  obtain ⟨h_Memory_at, e1⟩ := He.ba e1
  obtain ⟨h_Memory_runs, e1⟩ := He.ba e1
  obtain ⟨h_Memory_lay, e1⟩ := He.ba e1
  obtain ⟨h_Memory_put, e1⟩ := He.ba e1
  obtain ⟨h_Memory_fill, e1⟩ := He.ba e1
  obtain ⟨h_Memory_bring, e1⟩ := He.ba e1
  obtain ⟨h_Memory_copied, e1⟩ := He.ba e1
  obtain ⟨h_Memory_eq, e1⟩ := He.ba e1
  obtain ⟨h_Memory_len, e1⟩ := He.ba e1
  obtain ⟨h_Memory_repr, e1⟩ := He.ba e1
  have h_memory_of := e1
  obtain ⟨h_Lone_come_to, e2⟩ := He.ba e2
  obtain ⟨h_Lone_rest, e2⟩ := He.ba e2
  obtain ⟨h_Lone_is_at_fork, e2⟩ := He.ba e2
  obtain ⟨h_Lone_parted, e2⟩ := He.ba e2
  obtain ⟨h_Lone_goal_of, e2⟩ := He.ba e2
  obtain ⟨h_Lone_change, e2⟩ := He.ba e2
  obtain ⟨h_Lone_lead, e2⟩ := He.ba e2
  obtain ⟨h_Lone_step, e2⟩ := He.ba e2
  obtain ⟨h_is_path, e2⟩ := He.ba e2
  obtain ⟨h_gone_alone, e2⟩ := He.ba e2
  obtain ⟨h_fits, e2⟩ := He.ba e2
  have h_is_program_row := e2
  obtain ⟨h_Program_size, e3⟩ := He.ba e3
  obtain ⟨h_Program_rows, e3⟩ := He.ba e3
  obtain ⟨h_Program_eq, e3⟩ := He.ba e3
  obtain ⟨h_Program_len, e3⟩ := He.ba e3
  obtain ⟨h_law_pot, e3⟩ := He.ba e3
  obtain ⟨h_law_take, e3⟩ := He.ba e3
  obtain ⟨h_law_part, e3⟩ := He.ba e3
  obtain ⟨h_law_joined, e3⟩ := He.ba e3
  obtain ⟨h_law_with, e3⟩ := He.ba e3
  obtain ⟨h_law_width, e3⟩ := He.ba e3
  obtain ⟨h_law_cell, e3⟩ := He.ba e3
  have h_law_much := e3
  obtain ⟨h_law_written, e4⟩ := He.ba e4
  obtain ⟨h_law_row_drawn, e4⟩ := He.ba e4
  obtain ⟨h_law_loop, e4⟩ := He.ba e4
  obtain ⟨h_law_plan, e4⟩ := He.ba e4
  obtain ⟨h_law_comes, e4⟩ := He.ba e4
  obtain ⟨h_law_begun, e4⟩ := He.ba e4
  obtain ⟨h_law_at, e4⟩ := He.ba e4
  obtain ⟨h_law_led, e4⟩ := He.ba e4
  obtain ⟨h_law_put_there, e4⟩ := He.ba e4
  obtain ⟨h_law_does, e4⟩ := He.ba e4
  obtain ⟨h_law_turn, e4⟩ := He.ba e4
  have h_law_due := e4
  obtain ⟨h_law_told, e5⟩ := He.ba e5
  obtain ⟨h_law_right, e5⟩ := He.ba e5
  obtain ⟨h_law, e5⟩ := He.ba e5
  obtain ⟨hg_Memory, e5⟩ := He.ba e5
  obtain ⟨hc_Memory, e5⟩ := He.ba e5
  obtain ⟨hm_Memory, e5⟩ := He.ba e5
  obtain ⟨hn_Memory_pairs, e5⟩ := He.ba e5
  obtain ⟨hn_Memory_wide, e5⟩ := He.ba e5
  obtain ⟨oa_Memory, e5⟩ := He.ba e5
  obtain ⟨om_Memory, e5⟩ := He.ba e5
  obtain ⟨ok_Memory_NoneType, e5⟩ := He.ba e5
  have ok_Memory_int := e5
  obtain ⟨ok_Memory_bool, e6⟩ := He.ba e6
  obtain ⟨ok_Memory_str, e6⟩ := He.ba e6
  obtain ⟨ok_Memory_list, e6⟩ := He.ba e6
  obtain ⟨ok_Memory_tuple, e6⟩ := He.ba e6
  obtain ⟨ok_Memory_dict, e6⟩ := He.ba e6
  obtain ⟨ne_Memory, e6⟩ := He.ba e6
  obtain ⟨hg_Lone, e6⟩ := He.ba e6
  obtain ⟨hc_Lone, e6⟩ := He.ba e6
  obtain ⟨hm_Lone, e6⟩ := He.ba e6
  obtain ⟨hn_Lone_all_rows, e6⟩ := He.ba e6
  obtain ⟨hn_Lone_cells, e6⟩ := He.ba e6
  have hn_Lone_next_row := e6
  obtain ⟨hn_Lone_numbers, e7⟩ := He.ba e7
  obtain ⟨hn_Lone_rested, e7⟩ := He.ba e7
  obtain ⟨hg_Program, e7⟩ := He.ba e7
  obtain ⟨hc_Program, e7⟩ := He.ba e7
  obtain ⟨hm_Program, e7⟩ := He.ba e7
  obtain ⟨hn_Program_own_rows, e7⟩ := He.ba e7
  obtain ⟨hn_Program_own_size, e7⟩ := He.ba e7
  obtain ⟨oa_Program, e7⟩ := He.ba e7
  obtain ⟨om_Program, e7⟩ := He.ba e7
  obtain ⟨ok_Program_NoneType, e7⟩ := He.ba e7
  obtain ⟨ok_Program_int, e7⟩ := He.ba e7
  have ok_Program_bool := e7
  obtain ⟨ok_Program_str, e8⟩ := He.ba e8
  obtain ⟨ok_Program_list, e8⟩ := He.ba e8
  obtain ⟨ok_Program_tuple, e8⟩ := He.ba e8
  obtain ⟨ok_Program_dict, e8⟩ := He.ba e8
  obtain ⟨ne_Program, e8⟩ := He.ba e8
  obtain ⟨on, e8⟩ := He.ba e8
  obtain ⟨ot, e8⟩ := He.ba e8
  obtain ⟨xg_ForkError, e8⟩ := He.ba e8
  obtain ⟨xa_ForkError, e8⟩ := He.ba e8
  obtain ⟨xb_ForkError, e8⟩ := He.ba e8
  obtain ⟨xc_ForkError, e8⟩ := He.ba e8
  have xd_ForkError := e8
  obtain ⟨xe_ForkError, e9⟩ := He.ba e9
  obtain ⟨xf_ForkError, e9⟩ := He.ba e9
  obtain ⟨xt_ForkError, e9⟩ := He.ba e9
  obtain ⟨xg_NoSize, e9⟩ := He.ba e9
  obtain ⟨xa_NoSize, e9⟩ := He.ba e9
  obtain ⟨xb_NoSize, e9⟩ := He.ba e9
  obtain ⟨xc_NoSize, e9⟩ := He.ba e9
  obtain ⟨xd_NoSize, e9⟩ := He.ba e9
  obtain ⟨xe_NoSize, e9⟩ := He.ba e9
  obtain ⟨xf_NoSize, e9⟩ := He.ba e9
  obtain ⟨xt_NoSize, e9⟩ := He.ba e9
  have xk_NoSize := e9
  obtain ⟨xn_NoSize, e10⟩ := He.ba e10
  obtain ⟨xs_NoSize_ForkError, e10⟩ := He.ba e10
  obtain ⟨xs_NoSize_NoSize, e10⟩ := He.ba e10
  obtain ⟨xs_NoSize_NoProgram, e10⟩ := He.ba e10
  obtain ⟨xs_NoSize_NoPath, e10⟩ := He.ba e10
  obtain ⟨xg_NoProgram, e10⟩ := He.ba e10
  obtain ⟨xa_NoProgram, e10⟩ := He.ba e10
  obtain ⟨xb_NoProgram, e10⟩ := He.ba e10
  obtain ⟨xc_NoProgram, e10⟩ := He.ba e10
  obtain ⟨xd_NoProgram, e10⟩ := He.ba e10
  obtain ⟨xe_NoProgram, e10⟩ := He.ba e10
  have xf_NoProgram := e10
  obtain ⟨xt_NoProgram, e11⟩ := He.ba e11
  obtain ⟨xk_NoProgram, e11⟩ := He.ba e11
  obtain ⟨xs_NoProgram_ForkError, e11⟩ := He.ba e11
  obtain ⟨xs_NoProgram_NoSize, e11⟩ := He.ba e11
  obtain ⟨xs_NoProgram_NoProgram, e11⟩ := He.ba e11
  obtain ⟨xs_NoProgram_NoPath, e11⟩ := He.ba e11
  obtain ⟨xI_NoProgram, e11⟩ := He.ba e11
  obtain ⟨xT_NoProgram, e11⟩ := He.ba e11
  obtain ⟨xQ_NoProgram, e11⟩ := He.ba e11
  obtain ⟨xW_NoProgram, e11⟩ := He.ba e11
  obtain ⟨xZ_NoProgram, e11⟩ := He.ba e11
  have xbg_NoProgram := e11
  obtain ⟨xbr_NoProgram, e12⟩ := He.ba e12
  obtain ⟨xV_NoProgram, e12⟩ := He.ba e12
  obtain ⟨xg_NoPath, e12⟩ := He.ba e12
  obtain ⟨xa_NoPath, e12⟩ := He.ba e12
  obtain ⟨xb_NoPath, e12⟩ := He.ba e12
  obtain ⟨xc_NoPath, e12⟩ := He.ba e12
  obtain ⟨xd_NoPath, e12⟩ := He.ba e12
  obtain ⟨xe_NoPath, e12⟩ := He.ba e12
  obtain ⟨xf_NoPath, e12⟩ := He.ba e12
  obtain ⟨xt_NoPath, e12⟩ := He.ba e12
  obtain ⟨xk_NoPath, e12⟩ := He.ba e12
  have xn_NoPath := e12
  obtain ⟨xs_NoPath_ForkError, e13⟩ := He.ba e13
  obtain ⟨xs_NoPath_NoSize, e13⟩ := He.ba e13
  obtain ⟨xs_NoPath_NoProgram, e13⟩ := He.ba e13
  obtain ⟨xs_NoPath_NoPath, e13⟩ := He.ba e13
  obtain ⟨hk_DONE, e13⟩ := He.ba e13
  obtain ⟨hk_ELDER, e13⟩ := He.ba e13
  obtain ⟨hk_FAILED, e13⟩ := He.ba e13
  obtain ⟨hk_FORK, e13⟩ := He.ba e13
  obtain ⟨hk_LARGEST, e13⟩ := He.ba e13
  obtain ⟨hk_MOST, e13⟩ := He.ba e13
  obtain ⟨hk_NO_ROW, e13⟩ := He.ba e13
  have hk_YOUNGER := e13
  obtain ⟨dg_SHAPES, e14⟩ := He.ba e14
  obtain ⟨dv_SHAPES, e14⟩ := He.ba e14
  obtain ⟨hb_ArithmeticError, e14⟩ := He.ba e14
  obtain ⟨hb_ValueError, e14⟩ := He.ba e14
  obtain ⟨hb_abs, e14⟩ := He.ba e14
  obtain ⟨hb_all, e14⟩ := He.ba e14
  obtain ⟨hb_any, e14⟩ := He.ba e14
  obtain ⟨hb_bool, e14⟩ := He.ba e14
  obtain ⟨hb_divmod, e14⟩ := He.ba e14
  obtain ⟨hb_enumerate, e14⟩ := He.ba e14
  obtain ⟨hb_int, e14⟩ := He.ba e14
  have hb_isinstance := e14
  obtain ⟨hb_len, e15⟩ := He.ba e15
  obtain ⟨hb_list, e15⟩ := He.ba e15
  obtain ⟨hb_max, e15⟩ := He.ba e15
  obtain ⟨hb_min, e15⟩ := He.ba e15
  obtain ⟨hb_range, e15⟩ := He.ba e15
  obtain ⟨hb_repr, e15⟩ := He.ba e15
  obtain ⟨hb_str, e15⟩ := He.ba e15
  obtain ⟨hb_sum, e15⟩ := He.ba e15
  obtain ⟨hb_tuple, e15⟩ := He.ba e15
  have hb_zip := e15
  have eL := hfa.symm.trans (He.glo_ok X G h_law)
  cases eL
  obtain ⟨fd0, FF0⟩ := c.def_ 0 (d := dd0) rfl
  have F0 : FunD K "_wall" "_wall" (defArgs s_wall) (defBody s_wall) (defScope s_wall) [] ([] : List (Str × V)) (He.ga K "_wall") fd0 := FF0
  have b0 := bindN (ps := ["k"]) F0 fun _ _ _ _ _ _ us hl => match us, hl with | [_], _ => rfl
  obtain ⟨fd1, FF1⟩ := c.def_ 1 (d := dd1) rfl
  have F1 : FunD K "__init__" "NoProgram.__init__" (defArgs s_NoProgram_init) (defBody s_NoProgram_init) (defScope s_NoProgram_init) [] ([] : List (Str × V)) (He.ma K (He.ga K "NoProgram") "__init__") fd1 := FF1
  have b1 := bindN (ps := ["self", "row"]) F1 fun _ _ _ _ _ _ us hl => match us, hl with | [_, _], _ => rfl
  obtain ⟨fd2, FF2⟩ := c.def_ 2 (d := dd2) rfl
  have F2 : FunD K "is_number" "is_number" (defArgs s_is_number) (defBody s_is_number) (defScope s_is_number) [] ([] : List (Str × V)) (He.ga K "is_number") fd2 := FF2
  have b2 := bindN (ps := ["thing"]) F2 fun _ _ _ _ _ _ us hl => match us, hl with | [_], _ => rfl
  obtain ⟨fd3, FF3⟩ := c.def_ 3 (d := dd3) rfl
  have F3 : FunD K "is_whole" "is_whole" (defArgs s_is_whole) (defBody s_is_whole) (defScope s_is_whole) [] ([] : List (Str × V)) (He.ga K "is_whole") fd3 := FF3
  have b3 := bindN (ps := ["thing", "least", "most"]) F3 fun _ _ _ _ _ _ us hl => match us, hl with | [_, _, _], _ => rfl
  obtain ⟨fd4, FF4⟩ := c.def_ 4 (d := dd4) rfl
  have F4 : FunD K "is_size" "is_size" (defArgs s_is_size) (defBody s_is_size) (defScope s_is_size) [] ([] : List (Str × V)) (He.ga K "is_size") fd4 := FF4
  have b4 := bindN (ps := ["thing"]) F4 fun _ _ _ _ _ _ us hl => match us, hl with | [_], _ => rfl
  obtain ⟨fd5, FF5⟩ := c.def_ 5 (d := dd5) rfl
  have F5 : FunD K "is_run" "is_run" (defArgs s_is_run) (defBody s_is_run) (defScope s_is_run) [] ([] : List (Str × V)) (He.ga K "is_run") fd5 := FF5
  have b5 := bindN (ps := ["thing"]) F5 fun _ _ _ _ _ _ us hl => match us, hl with | [_], _ => rfl
  obtain ⟨fd6, FF6⟩ := c.def_ 6 (d := dd6) rfl
  have F6 : FunD K "are_runs" "are_runs" (defArgs s_are_runs) (defBody s_are_runs) (defScope s_are_runs) [] ([] : List (Str × V)) (He.ga K "are_runs") fd6 := FF6
  have b6 := bindN (ps := ["thing", "size"]) F6 fun _ _ _ _ _ _ us hl => match us, hl with | [_, _], _ => rfl
  obtain ⟨fd7, FF7⟩ := c.def_ 7 (d := dd7) rfl
  have F7 : FunD K "joined" "joined" (defArgs s_joined) (defBody s_joined) (defScope s_joined) [] ([] : List (Str × V)) (He.ga K "joined") fd7 := FF7
  have b7 := bindN (ps := ["pairs"]) F7 fun _ _ _ _ _ _ us hl => match us, hl with | [_], _ => rfl
  obtain ⟨fd8, FF8⟩ := c.def_ 8 (d := dd8) rfl
  have F8 : FunD K "cut_out" "cut_out" (defArgs s_cut_out) (defBody s_cut_out) (defScope s_cut_out) [] ([] : List (Str × V)) (He.ga K "cut_out") fd8 := FF8
  have b8 := bindN (ps := ["pairs", "begin", "end"]) F8 fun _ _ _ _ _ _ us hl => match us, hl with | [_, _, _], _ => rfl
  obtain ⟨fd9, FF9⟩ := c.def_ 9 (d := dd9) rfl
  have F9 : FunD K "want_size" "want_size" (defArgs s_want_size) (defBody s_want_size) (defScope s_want_size) [] ([] : List (Str × V)) (He.ga K "want_size") fd9 := FF9
  have b9 := bindN (ps := ["thing"]) F9 fun _ _ _ _ _ _ us hl => match us, hl with | [_], _ => rfl
  obtain ⟨fd10, FF10⟩ := c.def_ 10 (d := dd10) rfl
  have F10 : FunD K "want_number" "want_number" (defArgs s_want_number) (defBody s_want_number) (defScope s_want_number) [] ([] : List (Str × V)) (He.ga K "want_number") fd10 := FF10
  have b10 := bindN (ps := ["thing"]) F10 fun _ _ _ _ _ _ us hl => match us, hl with | [_], _ => rfl
  obtain ⟨fd11, FF11⟩ := c.def_ 11 (d := dd11) rfl
  have F11 : FunD K "want_cell" "want_cell" (defArgs s_want_cell) (defBody s_want_cell) (defScope s_want_cell) [] ([] : List (Str × V)) (He.ga K "want_cell") fd11 := FF11
  have b11 := bindN (ps := ["thing", "size"]) F11 fun _ _ _ _ _ _ us hl => match us, hl with | [_, _], _ => rfl
  obtain ⟨fd12, FF12⟩ := c.def_ 12 (d := dd12) rfl
  have F12 : FunD K "want_stretch" "want_stretch" (defArgs s_want_stretch) (defBody s_want_stretch) (defScope s_want_stretch) [] ([] : List (Str × V)) (He.ga K "want_stretch") fd12 := FF12
  have b12 := bindN (ps := ["begin", "end", "size"]) F12 fun _ _ _ _ _ _ us hl => match us, hl with | [_, _, _], _ => rfl
  obtain ⟨fd13, FF13⟩ := c.def_ 13 (d := dd13) rfl
  have F13 : FunD K "__init__" "Memory.__init__" (defArgs s_Memory_init) (defBody s_Memory_init) (defScope s_Memory_init) [] ([("number", V.int 0)] : List (Str × V)) (He.ma K (He.ga K "Memory") "__init__") fd13 := FF13
  have b13 := bindK (ps := ["self", "size", "number"]) F13 2 (by simp) rfl fun _ _ _ _ _ _ us ks h1 h2 => match us, ks, h1, h2 with | [_, _], [_], _, _ => ⟨_, _, _, _, _, _, rfl, rfl, rfl⟩
  obtain ⟨fd14, FF14⟩ := c.def_ 14 (d := dd14) rfl
  have F14 : FunD K "size" "Memory.size" (defArgs s_Memory_size) (defBody s_Memory_size) (defScope s_Memory_size) [] ([] : List (Str × V)) (He.ma K (He.ga K "Memory") "size") fd14 := FF14
  have b14 := bindN (ps := ["self"]) F14 fun _ _ _ _ _ _ us hl => match us, hl with | [_], _ => rfl
  obtain ⟨fd15, FF15⟩ := c.def_ 15 (d := dd15) rfl
  have F15 : FunD K "at" "Memory.at" (defArgs s_Memory_at) (defBody s_Memory_at) (defScope s_Memory_at) [] ([] : List (Str × V)) (He.ma K (He.ga K "Memory") "at") fd15 := FF15
  have b15 := bindN (ps := ["self", "cell"]) F15 fun _ _ _ _ _ _ us hl => match us, hl with | [_, _], _ => rfl
  obtain ⟨fd16, FF16⟩ := c.def_ 16 (d := dd16) rfl
  have F16 : FunD K "runs" "Memory.runs" (defArgs s_Memory_runs) (defBody s_Memory_runs) (defScope s_Memory_runs) [] ([] : List (Str × V)) (He.ma K (He.ga K "Memory") "runs") fd16 := FF16
  have b16 := bindN (ps := ["self"]) F16 fun _ _ _ _ _ _ us hl => match us, hl with | [_], _ => rfl
  obtain ⟨fd17, FF17⟩ := c.def_ 17 (d := dd17) rfl
  have F17 : FunD K "lay" "Memory.lay" (defArgs s_Memory_lay) (defBody s_Memory_lay) (defScope s_Memory_lay) [] ([] : List (Str × V)) (He.ma K (He.ga K "Memory") "lay") fd17 := FF17
  have b17 := bindN (ps := ["self", "begin", "pairs", "end"]) F17 fun _ _ _ _ _ _ us hl => match us, hl with | [_, _, _, _], _ => rfl
  obtain ⟨fd18, FF18⟩ := c.def_ 18 (d := dd18) rfl
  have F18 : FunD K "put" "Memory.put" (defArgs s_Memory_put) (defBody s_Memory_put) (defScope s_Memory_put) [] ([] : List (Str × V)) (He.ma K (He.ga K "Memory") "put") fd18 := FF18
  have b18 := bindN (ps := ["self", "cell", "number"]) F18 fun _ _ _ _ _ _ us hl => match us, hl with | [_, _, _], _ => rfl
  obtain ⟨fd19, FF19⟩ := c.def_ 19 (d := dd19) rfl
  have F19 : FunD K "fill" "Memory.fill" (defArgs s_Memory_fill) (defBody s_Memory_fill) (defScope s_Memory_fill) [] ([] : List (Str × V)) (He.ma K (He.ga K "Memory") "fill") fd19 := FF19
  have b19 := bindN (ps := ["self", "begin", "end", "number"]) F19 fun _ _ _ _ _ _ us hl => match us, hl with | [_, _, _, _], _ => rfl
  obtain ⟨fd20, FF20⟩ := c.def_ 20 (d := dd20) rfl
  have F20 : FunD K "bring" "Memory.bring" (defArgs s_Memory_bring) (defBody s_Memory_bring) (defScope s_Memory_bring) [] ([("source", V.non)] : List (Str × V)) (He.ma K (He.ga K "Memory") "bring") fd20 := FF20
  have b20 := bindK (ps := ["self", "begin", "end", "to", "source"]) F20 4 (by simp) rfl fun _ _ _ _ _ _ us ks h1 h2 => match us, ks, h1, h2 with | [_, _, _, _], [_], _, _ => ⟨_, _, _, _, _, _, rfl, rfl, rfl⟩
  obtain ⟨fd21, FF21⟩ := c.def_ 21 (d := dd21) rfl
  have F21 : FunD K "copied" "Memory.copied" (defArgs s_Memory_copied) (defBody s_Memory_copied) (defScope s_Memory_copied) [] ([] : List (Str × V)) (He.ma K (He.ga K "Memory") "copied") fd21 := FF21
  have b21 := bindN (ps := ["self"]) F21 fun _ _ _ _ _ _ us hl => match us, hl with | [_], _ => rfl
  obtain ⟨fd22, FF22⟩ := c.def_ 22 (d := dd22) rfl
  have F22 : FunD K "__eq__" "Memory.__eq__" (defArgs s_Memory_eq) (defBody s_Memory_eq) (defScope s_Memory_eq) [] ([] : List (Str × V)) (He.ma K (He.ga K "Memory") "__eq__") fd22 := FF22
  have b22 := bindN (ps := ["self", "other"]) F22 fun _ _ _ _ _ _ us hl => match us, hl with | [_, _], _ => rfl
  obtain ⟨fd23, FF23⟩ := c.def_ 23 (d := dd23) rfl
  have F23 : FunD K "__len__" "Memory.__len__" (defArgs s_Memory_len) (defBody s_Memory_len) (defScope s_Memory_len) [] ([] : List (Str × V)) (He.ma K (He.ga K "Memory") "__len__") fd23 := FF23
  have b23 := bindN (ps := ["self"]) F23 fun _ _ _ _ _ _ us hl => match us, hl with | [_], _ => rfl
  obtain ⟨fd24, FF24⟩ := c.def_ 24 (d := dd24) rfl
  have F24 : FunD K "__repr__" "Memory.__repr__" (defArgs s_Memory_repr) (defBody s_Memory_repr) (defScope s_Memory_repr) [] ([] : List (Str × V)) (He.ma K (He.ga K "Memory") "__repr__") fd24 := FF24
  have b24 := bindN (ps := ["self"]) F24 fun _ _ _ _ _ _ us hl => match us, hl with | [_], _ => rfl
  obtain ⟨fd25, FF25⟩ := c.def_ 25 (d := dd25) rfl
  have F25 : FunD K "memory_of" "memory_of" (defArgs s_memory_of) (defBody s_memory_of) (defScope s_memory_of) [] ([] : List (Str × V)) (He.ga K "memory_of") fd25 := FF25
  have b25 := bindN (ps := ["runs"]) F25 fun _ _ _ _ _ _ us hl => match us, hl with | [_], _ => rfl
  obtain ⟨fd26, FF26⟩ := c.def_ 26 (d := dd26) rfl
  have F26 : FunD K "__init__" "Lone.__init__" (defArgs s_Lone_init) (defBody s_Lone_init) (defScope s_Lone_init) [] ([] : List (Str × V)) (He.ma K (He.ga K "Lone") "__init__") fd26 := FF26
  have b26 := bindN (ps := ["self", "program"]) F26 fun _ _ _ _ _ _ us hl => match us, hl with | [_, _], _ => rfl
  obtain ⟨fd27, FF27⟩ := c.def_ 27 (d := dd27) rfl
  have F27 : FunD K "come_to" "Lone.come_to" (defArgs s_Lone_come_to) (defBody s_Lone_come_to) (defScope s_Lone_come_to) [] ([] : List (Str × V)) (He.ma K (He.ga K "Lone") "come_to") fd27 := FF27
  have b27 := bindN (ps := ["self", "place"]) F27 fun _ _ _ _ _ _ us hl => match us, hl with | [_, _], _ => rfl
  obtain ⟨fd28, FF28⟩ := c.def_ 28 (d := dd28) rfl
  have F28 : FunD K "rest" "Lone.rest" (defArgs s_Lone_rest) (defBody s_Lone_rest) (defScope s_Lone_rest) [] ([] : List (Str × V)) (He.ma K (He.ga K "Lone") "rest") fd28 := FF28
  have b28 := bindN (ps := ["self", "word"]) F28 fun _ _ _ _ _ _ us hl => match us, hl with | [_, _], _ => rfl
  obtain ⟨fd29, FF29⟩ := c.def_ 29 (d := dd29) rfl
  have F29 : FunD K "is_at_fork" "Lone.is_at_fork" (defArgs s_Lone_is_at_fork) (defBody s_Lone_is_at_fork) (defScope s_Lone_is_at_fork) [] ([] : List (Str × V)) (He.ma K (He.ga K "Lone") "is_at_fork") fd29 := FF29
  have b29 := bindN (ps := ["self"]) F29 fun _ _ _ _ _ _ us hl => match us, hl with | [_], _ => rfl
  obtain ⟨fd30, FF30⟩ := c.def_ 30 (d := dd30) rfl
  have F30 : FunD K "parted" "Lone.parted" (defArgs s_Lone_parted) (defBody s_Lone_parted) (defScope s_Lone_parted) [] ([] : List (Str × V)) (He.ma K (He.ga K "Lone") "parted") fd30 := FF30
  have b30 := bindN (ps := ["self", "program"]) F30 fun _ _ _ _ _ _ us hl => match us, hl with | [_, _], _ => rfl
  obtain ⟨fd31, FF31⟩ := c.def_ 31 (d := dd31) rfl
  have F31 : FunD K "goal_of" "Lone.goal_of" (defArgs s_Lone_goal_of) (defBody s_Lone_goal_of) (defScope s_Lone_goal_of) [] ([] : List (Str × V)) (He.ma K (He.ga K "Lone") "goal_of") fd31 := FF31
  have b31 := bindN (ps := ["self", "cell"]) F31 fun _ _ _ _ _ _ us hl => match us, hl with | [_, _], _ => rfl
  obtain ⟨fd32, FF32⟩ := c.def_ 32 (d := dd32) rfl
  have F32 : FunD K "change" "Lone.change" (defArgs s_Lone_change) (defBody s_Lone_change) (defScope s_Lone_change) [] ([] : List (Str × V)) (He.ma K (He.ga K "Lone") "change") fd32 := FF32
  have b32 := bindN (ps := ["self", "word", "things"]) F32 fun _ _ _ _ _ _ us hl => match us, hl with | [_, _, _], _ => rfl
  obtain ⟨fd33, FF33⟩ := c.def_ 33 (d := dd33) rfl
  have F33 : FunD K "lead" "Lone.lead" (defArgs s_Lone_lead) (defBody s_Lone_lead) (defScope s_Lone_lead) [] ([] : List (Str × V)) (He.ma K (He.ga K "Lone") "lead") fd33 := FF33
  have b33 := bindN (ps := ["self", "word", "things"]) F33 fun _ _ _ _ _ _ us hl => match us, hl with | [_, _, _], _ => rfl
  obtain ⟨fd34, FF34⟩ := c.def_ 34 (d := dd34) rfl
  have F34 : FunD K "step" "Lone.step" (defArgs s_Lone_step) (defBody s_Lone_step) (defScope s_Lone_step) [] ([] : List (Str × V)) (He.ma K (He.ga K "Lone") "step") fd34 := FF34
  have b34 := bindN (ps := ["self"]) F34 fun _ _ _ _ _ _ us hl => match us, hl with | [_], _ => rfl
  obtain ⟨fd35, FF35⟩ := c.def_ 35 (d := dd35) rfl
  have F35 : FunD K "is_path" "is_path" (defArgs s_is_path) (defBody s_is_path) (defScope s_is_path) [] ([] : List (Str × V)) (He.ga K "is_path") fd35 := FF35
  have b35 := bindN (ps := ["thing"]) F35 fun _ _ _ _ _ _ us hl => match us, hl with | [_], _ => rfl
  obtain ⟨fd36, FF36⟩ := c.def_ 36 (d := dd36) rfl
  have F36 : FunD K "gone_alone" "gone_alone" (defArgs s_gone_alone) (defBody s_gone_alone) (defScope s_gone_alone) [] ([("most", V.int 1000)] : List (Str × V)) (He.ga K "gone_alone") fd36 := FF36
  have b36 := bindK (ps := ["program", "path", "most"]) F36 2 (by simp) rfl fun _ _ _ _ _ _ us ks h1 h2 => match us, ks, h1, h2 with | [_, _], [_], _, _ => ⟨_, _, _, _, _, _, rfl, rfl, rfl⟩
  obtain ⟨fd37, FF37⟩ := c.def_ 37 (d := dd37) rfl
  have F37 : FunD K "fits" "fits" (defArgs s_fits) (defBody s_fits) (defScope s_fits) [] ([] : List (Str × V)) (He.ga K "fits") fd37 := FF37
  have b37 := bindN (ps := ["sort", "thing", "size", "many"]) F37 fun _ _ _ _ _ _ us hl => match us, hl with | [_, _, _, _], _ => rfl
  obtain ⟨fd38, FF38⟩ := c.def_ 38 (d := dd38) rfl
  have F38 : FunD K "is_program_row" "is_program_row" (defArgs s_is_program_row) (defBody s_is_program_row) (defScope s_is_program_row) [] ([] : List (Str × V)) (He.ga K "is_program_row") fd38 := FF38
  have b38 := bindN (ps := ["thing", "size", "many"]) F38 fun _ _ _ _ _ _ us hl => match us, hl with | [_, _, _], _ => rfl
  obtain ⟨fd39, FF39⟩ := c.def_ 39 (d := dd39) rfl
  have F39 : FunD K "__init__" "Program.__init__" (defArgs s_Program_init) (defBody s_Program_init) (defScope s_Program_init) [] ([] : List (Str × V)) (He.ma K (He.ga K "Program") "__init__") fd39 := FF39
  have b39 := bindN (ps := ["self", "size", "rows"]) F39 fun _ _ _ _ _ _ us hl => match us, hl with | [_, _, _], _ => rfl
  obtain ⟨fd40, FF40⟩ := c.def_ 40 (d := dd40) rfl
  have F40 : FunD K "size" "Program.size" (defArgs s_Program_size) (defBody s_Program_size) (defScope s_Program_size) [] ([] : List (Str × V)) (He.ma K (He.ga K "Program") "size") fd40 := FF40
  have b40 := bindN (ps := ["self"]) F40 fun _ _ _ _ _ _ us hl => match us, hl with | [_], _ => rfl
  obtain ⟨fd41, FF41⟩ := c.def_ 41 (d := dd41) rfl
  have F41 : FunD K "rows" "Program.rows" (defArgs s_Program_rows) (defBody s_Program_rows) (defScope s_Program_rows) [] ([] : List (Str × V)) (He.ma K (He.ga K "Program") "rows") fd41 := FF41
  have b41 := bindN (ps := ["self"]) F41 fun _ _ _ _ _ _ us hl => match us, hl with | [_], _ => rfl
  obtain ⟨fd42, FF42⟩ := c.def_ 42 (d := dd42) rfl
  have F42 : FunD K "__eq__" "Program.__eq__" (defArgs s_Program_eq) (defBody s_Program_eq) (defScope s_Program_eq) [] ([] : List (Str × V)) (He.ma K (He.ga K "Program") "__eq__") fd42 := FF42
  have b42 := bindN (ps := ["self", "other"]) F42 fun _ _ _ _ _ _ us hl => match us, hl with | [_, _], _ => rfl
  obtain ⟨fd43, FF43⟩ := c.def_ 43 (d := dd43) rfl
  have F43 : FunD K "__len__" "Program.__len__" (defArgs s_Program_len) (defBody s_Program_len) (defScope s_Program_len) [] ([] : List (Str × V)) (He.ma K (He.ga K "Program") "__len__") fd43 := FF43
  have b43 := bindN (ps := ["self"]) F43 fun _ _ _ _ _ _ us hl => match us, hl with | [_], _ => rfl
  obtain ⟨fd44, FF44⟩ := c.def_ 44 (d := dd44) rfl
  have F44 : FunD K "_law_pot" "_law_pot" (defArgs s_law_pot) (defBody s_law_pot) (defScope s_law_pot) [] ([] : List (Str × V)) (He.ga K "_law_pot") fd44 := FF44
  have b44 := bindN (ps := ["_law_script", "_law_k"]) F44 fun _ _ _ _ _ _ us hl => match us, hl with | [_, _], _ => rfl
  obtain ⟨fd45, FF45⟩ := c.def_ 45 (d := dd45) rfl
  have F45 : FunD K "_law_take" "_law_take" (defArgs s_law_take) (defBody s_law_take) (defScope s_law_take) [] ([] : List (Str × V)) (He.ga K "_law_take") fd45 := FF45
  have b45 := bindN (ps := ["_law_pot_here", "_law_many"]) F45 fun _ _ _ _ _ _ us hl => match us, hl with | [_, _], _ => rfl
  obtain ⟨fd46, FF46⟩ := c.def_ 46 (d := dd46) rfl
  have F46 : FunD K "_law_part" "_law_part" (defArgs s_law_part) (defBody s_law_part) (defScope s_law_part) [] ([] : List (Str × V)) (He.ga K "_law_part") fd46 := FF46
  have b46 := bindN (ps := ["_law_row", "_law_begin", "_law_stop"]) F46 fun _ _ _ _ _ _ us hl => match us, hl with | [_, _, _], _ => rfl
  obtain ⟨fd47, FF47⟩ := c.def_ 47 (d := dd47) rfl
  have F47 : FunD K "_law_joined" "_law_joined" (defArgs s_law_joined) (defBody s_law_joined) (defScope s_law_joined) [] ([] : List (Str × V)) (He.ga K "_law_joined") fd47 := FF47
  have b47 := bindN (ps := ["_law_row"]) F47 fun _ _ _ _ _ _ us hl => match us, hl with | [_], _ => rfl
  obtain ⟨fd48, FF48⟩ := c.def_ 48 (d := dd48) rfl
  have F48 : FunD K "_law_with" "_law_with" (defArgs s_law_with) (defBody s_law_with) (defScope s_law_with) [] ([] : List (Str × V)) (He.ga K "_law_with") fd48 := FF48
  have b48 := bindN (ps := ["_law_row", "_law_begin", "_law_part_here"]) F48 fun _ _ _ _ _ _ us hl => match us, hl with | [_, _, _], _ => rfl
  obtain ⟨fd49, FF49⟩ := c.def_ 49 (d := dd49) rfl
  have F49 : FunD K "_law_width" "_law_width" (defArgs s_law_width) (defBody s_law_width) (defScope s_law_width) [] ([] : List (Str × V)) (He.ga K "_law_width") fd49 := FF49
  have b49 := bindN (ps := ["_law_pot_here"]) F49 fun _ _ _ _ _ _ us hl => match us, hl with | [_], _ => rfl
  obtain ⟨fd50, FF50⟩ := c.def_ 50 (d := dd50) rfl
  have F50 : FunD K "_law_cell" "_law_cell" (defArgs s_law_cell) (defBody s_law_cell) (defScope s_law_cell) [] ([] : List (Str × V)) (He.ga K "_law_cell") fd50 := FF50
  have b50 := bindN (ps := ["_law_pot_here", "_law_wide"]) F50 fun _ _ _ _ _ _ us hl => match us, hl with | [_, _], _ => rfl
  obtain ⟨fd51, FF51⟩ := c.def_ 51 (d := dd51) rfl
  have F51 : FunD K "_law_much" "_law_much" (defArgs s_law_much) (defBody s_law_much) (defScope s_law_much) [] ([] : List (Str × V)) (He.ga K "_law_much") fd51 := FF51
  have b51 := bindN (ps := ["_law_pot_here", "_law_wide"]) F51 fun _ _ _ _ _ _ us hl => match us, hl with | [_, _], _ => rfl
  obtain ⟨fd52, FF52⟩ := c.def_ 52 (d := dd52) rfl
  have F52 : FunD K "_law_written" "_law_written" (defArgs s_law_written) (defBody s_law_written) (defScope s_law_written) [] ([] : List (Str × V)) (He.ga K "_law_written") fd52 := FF52
  have b52 := bindN (ps := ["_law_pot_here", "_law_wide", "_law_way"]) F52 fun _ _ _ _ _ _ us hl => match us, hl with | [_, _, _], _ => rfl
  obtain ⟨fd53, FF53⟩ := c.def_ 53 (d := dd53) rfl
  have F53 : FunD K "_law_row_drawn" "_law_row_drawn" (defArgs s_law_row_drawn) (defBody s_law_row_drawn) (defScope s_law_row_drawn) [] ([] : List (Str × V)) (He.ga K "_law_row_drawn") fd53 := FF53
  have b53 := bindN (ps := ["_law_pot_here", "_law_wide", "_law_here", "_law_many", "_law_forks"]) F53 fun _ _ _ _ _ _ us hl => match us, hl with | [_, _, _, _, _], _ => rfl
  obtain ⟨fd54, FF54⟩ := c.def_ 54 (d := dd54) rfl
  have F54 : FunD K "_law_loop" "_law_loop" (defArgs s_law_loop) (defBody s_law_loop) (defScope s_law_loop) [] ([] : List (Str × V)) (He.ga K "_law_loop") fd54 := FF54
  have b54 := bindN (ps := ["_law_pot_here", "_law_wide"]) F54 fun _ _ _ _ _ _ us hl => match us, hl with | [_, _], _ => rfl
  obtain ⟨fd55, FF55⟩ := c.def_ 55 (d := dd55) rfl
  have F55 : FunD K "_law_plan" "_law_plan" (defArgs s_law_plan) (defBody s_law_plan) (defScope s_law_plan) [] ([] : List (Str × V)) (He.ga K "_law_plan") fd55 := FF55
  have b55 := bindN (ps := ["_law_pot_here", "_law_high"]) F55 fun _ _ _ _ _ _ us hl => match us, hl with | [_, _], _ => rfl
  obtain ⟨fd56, FF56⟩ := c.def_ 56 (d := dd56) rfl
  have F56 : FunD K "_law_comes" "_law_comes" (defArgs s_law_comes) (defBody s_law_comes) (defScope s_law_comes) [] ([] : List (Str × V)) (He.ga K "_law_comes") fd56 := FF56
  have b56 := bindN (ps := ["_law_rows", "_law_one", "_law_place"]) F56 fun _ _ _ _ _ _ us hl => match us, hl with | [_, _, _], _ => rfl
  obtain ⟨fd57, FF57⟩ := c.def_ 57 (d := dd57) rfl
  have F57 : FunD K "_law_begun" "_law_begun" (defArgs s_law_begun) (defBody s_law_begun) (defScope s_law_begun) [] ([] : List (Str × V)) (He.ga K "_law_begun") fd57 := FF57
  have b57 := bindN (ps := ["_law_wide", "_law_rows"]) F57 fun _ _ _ _ _ _ us hl => match us, hl with | [_, _], _ => rfl
  obtain ⟨fd58, FF58⟩ := c.def_ 58 (d := dd58) rfl
  have F58 : FunD K "_law_at" "_law_at" (defArgs s_law_at) (defBody s_law_at) (defScope s_law_at) [] ([] : List (Str × V)) (He.ga K "_law_at") fd58 := FF58
  have b58 := bindN (ps := ["_law_row", "_law_cell_here"]) F58 fun _ _ _ _ _ _ us hl => match us, hl with | [_, _], _ => rfl
  obtain ⟨fd59, FF59⟩ := c.def_ 59 (d := dd59) rfl
  have F59 : FunD K "_law_led" "_law_led" (defArgs s_law_led) (defBody s_law_led) (defScope s_law_led) [] ([] : List (Str × V)) (He.ga K "_law_led") fd59 := FF59
  have b59 := bindN (ps := ["_law_row", "_law_word", "_law_things"]) F59 fun _ _ _ _ _ _ us hl => match us, hl with | [_, _, _], _ => rfl
  obtain ⟨fd60, FF60⟩ := c.def_ 60 (d := dd60) rfl
  have F60 : FunD K "_law_put_there" "_law_put_there" (defArgs s_law_put_there) (defBody s_law_put_there) (defScope s_law_put_there) [] ([] : List (Str × V)) (He.ga K "_law_put_there") fd60 := FF60
  have b60 := bindN (ps := ["_law_row", "_law_word", "_law_things"]) F60 fun _ _ _ _ _ _ us hl => match us, hl with | [_, _, _], _ => rfl
  obtain ⟨fd61, FF61⟩ := c.def_ 61 (d := dd61) rfl
  have F61 : FunD K "_law_does" "_law_does" (defArgs s_law_does) (defBody s_law_does) (defScope s_law_does) [] ([] : List (Str × V)) (He.ga K "_law_does") fd61 := FF61
  have b61 := bindN (ps := ["_law_one", "_law_word", "_law_things"]) F61 fun _ _ _ _ _ _ us hl => match us, hl with | [_, _, _], _ => rfl
  obtain ⟨fd62, FF62⟩ := c.def_ 62 (d := dd62) rfl
  have F62 : FunD K "_law_turn" "_law_turn" (defArgs s_law_turn) (defBody s_law_turn) (defScope s_law_turn) [] ([] : List (Str × V)) (He.ga K "_law_turn") fd62 := FF62
  have b62 := bindN (ps := ["_law_rows", "_law_one"]) F62 fun _ _ _ _ _ _ us hl => match us, hl with | [_, _], _ => rfl
  obtain ⟨fd63, FF63⟩ := c.def_ 63 (d := dd63) rfl
  have F63 : FunD K "_law_due" "_law_due" (defArgs s_law_due) (defBody s_law_due) (defScope s_law_due) [] ([] : List (Str × V)) (He.ga K "_law_due") fd63 := FF63
  have b63 := bindN (ps := ["_law_wide", "_law_rows", "_law_trail"]) F63 fun _ _ _ _ _ _ us hl => match us, hl with | [_, _, _], _ => rfl
  obtain ⟨fd64, FF64⟩ := c.def_ 64 (d := dd64) rfl
  have F64 : FunD K "_law_told" "_law_told" (defArgs s_law_told) (defBody s_law_told) (defScope s_law_told) [] ([] : List (Str × V)) (He.ga K "_law_told") fd64 := FF64
  have b64 := bindN (ps := ["_law_plan_here", "_law_trail"]) F64 fun _ _ _ _ _ _ us hl => match us, hl with | [_, _], _ => rfl
  obtain ⟨fd65, FF65⟩ := c.def_ 65 (d := dd65) rfl
  have F65 : FunD K "_law_right" "_law_right" (defArgs s_law_right) (defBody s_law_right) (defScope s_law_right) [] ([] : List (Str × V)) (He.ga K "_law_right") fd65 := FF65
  have b65 := bindN (ps := ["_law_pot_here", "_law_plan_here", "_law_wide", "_law_rows"]) F65 fun _ _ _ _ _ _ us hl => match us, hl with | [_, _, _, _], _ => rfl
  obtain ⟨fd66, FF66⟩ := c.def_ 66 (d := dd66) rfl
  have F66 : FunD K "law" "law" (defArgs s_law) (defBody s_law) (defScope s_law) [] ([] : List (Str × V)) (He.ga K "law") fd66 := FF66
  have b66 := bindN (ps := ["_law_script"]) F66 fun _ _ _ _ _ _ us hl => match us, hl with | [_], _ => rfl
  obtain ⟨t_DONE, g_DONE⟩ := txB_ok hk_DONE
  have g_DONE := PySem.W.mg_of X G g_DONE
  obtain ⟨t_ELDER, g_ELDER⟩ := txB_ok hk_ELDER
  have g_ELDER := PySem.W.mg_of X G g_ELDER
  obtain ⟨t_FAILED, g_FAILED⟩ := txB_ok hk_FAILED
  have g_FAILED := PySem.W.mg_of X G g_FAILED
  obtain ⟨t_FORK, g_FORK⟩ := txB_ok hk_FORK
  have g_FORK := PySem.W.mg_of X G g_FORK
  obtain ⟨t_LARGEST, g_LARGEST⟩ := He.int_ok X G hk_LARGEST
  obtain ⟨t_MOST, g_MOST⟩ := He.int_ok X G hk_MOST
  obtain ⟨t_NO_ROW, g_NO_ROW⟩ := He.int_ok X G hk_NO_ROW
  obtain ⟨t_YOUNGER, g_YOUNGER⟩ := txB_ok hk_YOUNGER
  have g_YOUNGER := PySem.W.mg_of X G g_YOUNGER
  have eD0 : He.dicW K (gdH K "SHAPES") = some (He.keysIn w.params (kv_SHAPES.map (·.1))) := by
    have h : (dicsH K)[0]? = (dvalH w.params)[0]? := by rw [eD]
    exact Option.some.inj h
  let T : Txt w K mg := {
    a_SHAPES := _, g_SHAPES := PySem.W.mg_of X G (He.eqO_ok dg_SHAPES), D_SHAPES := tabD_ok eD0 dv_SHAPES
    c_Memory := _, cl_Memory := He.cls_ok hc_Memory, mg_Memory := He.glo_ok X G hg_Memory
    na_Memory_pairs := He.noat_ok hn_Memory_pairs
    na_Memory_wide := He.noat_ok hn_Memory_wide
    ic_Memory := ⟨He.cls_ok hc_Memory, He.eqO_ok oa_Memory, He.eqO_ok on, of_decide_eq_true ot, of_decide_eq_true om_Memory, kit_me⟩
    ot_Memory := by
      intro n hn
      simp only [tyNames, List.mem_cons, List.not_mem_nil, or_false] at hn
      rcases hn with rfl | rfl | rfl | rfl | rfl | rfl | rfl
      · exact of_decide_eq_true ok_Memory_NoneType
      · exact of_decide_eq_true ok_Memory_int
      · exact of_decide_eq_true ok_Memory_bool
      · exact of_decide_eq_true ok_Memory_str
      · exact of_decide_eq_true ok_Memory_list
      · exact of_decide_eq_true ok_Memory_tuple
      · exact of_decide_eq_true ok_Memory_dict
    ne_Memory := He.eqO_ok ne_Memory
    c_Lone := _, cl_Lone := He.cls_ok hc_Lone, mg_Lone := He.glo_ok X G hg_Lone
    na_Lone_all_rows := He.noat_ok hn_Lone_all_rows
    na_Lone_cells := He.noat_ok hn_Lone_cells
    na_Lone_next_row := He.noat_ok hn_Lone_next_row
    na_Lone_numbers := He.noat_ok hn_Lone_numbers
    na_Lone_rested := He.noat_ok hn_Lone_rested
    c_Program := _, cl_Program := He.cls_ok hc_Program, mg_Program := He.glo_ok X G hg_Program
    na_Program_own_rows := He.noat_ok hn_Program_own_rows
    na_Program_own_size := He.noat_ok hn_Program_own_size
    ic_Program := ⟨He.cls_ok hc_Program, He.eqO_ok oa_Program, He.eqO_ok on, of_decide_eq_true ot, of_decide_eq_true om_Program, kit_me⟩
    ot_Program := by
      intro n hn
      simp only [tyNames, List.mem_cons, List.not_mem_nil, or_false] at hn
      rcases hn with rfl | rfl | rfl | rfl | rfl | rfl | rfl
      · exact of_decide_eq_true ok_Program_NoneType
      · exact of_decide_eq_true ok_Program_int
      · exact of_decide_eq_true ok_Program_bool
      · exact of_decide_eq_true ok_Program_str
      · exact of_decide_eq_true ok_Program_list
      · exact of_decide_eq_true ok_Program_tuple
      · exact of_decide_eq_true ok_Program_dict
    ne_Program := He.eqO_ok ne_Program
    x_ForkError := _, mx_ForkError := He.glo_ok X G xg_ForkError, ec_ForkError := ⟨He.eqO_ok xa_ForkError, He.eqO_ok xb_ForkError, of_decide_eq_true xc_ForkError, xd_ForkError, He.eqO_ok xe_ForkError, He.eqO_ok on, of_decide_eq_true ot, of_decide_eq_true xf_ForkError⟩, et_ForkError := of_decide_eq_true xt_ForkError
    x_NoSize := _, mx_NoSize := He.glo_ok X G xg_NoSize, ec_NoSize := ⟨He.eqO_ok xa_NoSize, He.eqO_ok xb_NoSize, of_decide_eq_true xc_NoSize, xd_NoSize, He.eqO_ok xe_NoSize, He.eqO_ok on, of_decide_eq_true ot, of_decide_eq_true xf_NoSize⟩, et_NoSize := of_decide_eq_true xt_NoSize
    ek_NoSize := xk_NoSize
    en_NoSize := xn_NoSize
    is_NoSize_ForkError := of_decide_eq_true xs_NoSize_ForkError
    is_NoSize_NoSize := of_decide_eq_true xs_NoSize_NoSize
    is_NoSize_NoProgram := of_decide_eq_true xs_NoSize_NoProgram
    is_NoSize_NoPath := of_decide_eq_true xs_NoSize_NoPath
    x_NoProgram := _, mx_NoProgram := He.glo_ok X G xg_NoProgram, ec_NoProgram := ⟨He.eqO_ok xa_NoProgram, He.eqO_ok xb_NoProgram, of_decide_eq_true xc_NoProgram, xd_NoProgram, He.eqO_ok xe_NoProgram, He.eqO_ok on, of_decide_eq_true ot, of_decide_eq_true xf_NoProgram⟩, et_NoProgram := of_decide_eq_true xt_NoProgram
    ek_NoProgram := xk_NoProgram
    is_NoProgram_ForkError := of_decide_eq_true xs_NoProgram_ForkError
    is_NoProgram_NoSize := of_decide_eq_true xs_NoProgram_NoSize
    is_NoProgram_NoProgram := of_decide_eq_true xs_NoProgram_NoProgram
    is_NoProgram_NoPath := of_decide_eq_true xs_NoProgram_NoPath
    x_NoPath := _, mx_NoPath := He.glo_ok X G xg_NoPath, ec_NoPath := ⟨He.eqO_ok xa_NoPath, He.eqO_ok xb_NoPath, of_decide_eq_true xc_NoPath, xd_NoPath, He.eqO_ok xe_NoPath, He.eqO_ok on, of_decide_eq_true ot, of_decide_eq_true xf_NoPath⟩, et_NoPath := of_decide_eq_true xt_NoPath
    ek_NoPath := xk_NoPath
    en_NoPath := xn_NoPath
    is_NoPath_ForkError := of_decide_eq_true xs_NoPath_ForkError
    is_NoPath_NoSize := of_decide_eq_true xs_NoPath_NoSize
    is_NoPath_NoProgram := of_decide_eq_true xs_NoPath_NoProgram
    is_NoPath_NoPath := of_decide_eq_true xs_NoPath_NoPath
    a_wall := _, d_wall := _, F_wall := F0, b_wall := b0, m_wall := He.glo_ok X G h_wall
    a_NoProgram_init := _, d_NoProgram_init := _, F_NoProgram_init := F1, b_NoProgram_init := b1, xi_NoProgram := (He.meth_ok xI_NoProgram).at_, xt_NoProgram := of_decide_eq_true xT_NoProgram, xc_NoProgram := ⟨under_ValueError, excB_ok xQ_NoProgram, He.eqO_ok xW_NoProgram, of_decide_eq_true xc_NoProgram, of_decide_eq_true xt_NoProgram, xk_NoProgram⟩, xn_NoProgram := He.eqO_ok xZ_NoProgram, xbg_NoProgram := He.eqO_ok xbg_NoProgram, xbr_NoProgram := xbr_NoProgram, xv_NoProgram := foundB_ok xV_NoProgram, xf_NoProgram := ⟨He.eqO_ok xa_NoProgram, He.eqO_ok xb_NoProgram, of_decide_eq_true xc_NoProgram, xd_NoProgram⟩
    a_is_number := _, d_is_number := _, F_is_number := F2, b_is_number := b2, m_is_number := He.glo_ok X G h_is_number
    a_is_whole := _, d_is_whole := _, F_is_whole := F3, b_is_whole := b3, m_is_whole := He.glo_ok X G h_is_whole
    a_is_size := _, d_is_size := _, F_is_size := F4, b_is_size := b4, m_is_size := He.glo_ok X G h_is_size
    a_is_run := _, d_is_run := _, F_is_run := F5, b_is_run := b5, m_is_run := He.glo_ok X G h_is_run
    a_are_runs := _, d_are_runs := _, F_are_runs := F6, b_are_runs := b6, m_are_runs := He.glo_ok X G h_are_runs
    a_joined := _, d_joined := _, F_joined := F7, b_joined := b7, m_joined := He.glo_ok X G h_joined
    a_cut_out := _, d_cut_out := _, F_cut_out := F8, b_cut_out := b8, m_cut_out := He.glo_ok X G h_cut_out
    a_want_size := _, d_want_size := _, F_want_size := F9, b_want_size := b9, m_want_size := He.glo_ok X G h_want_size
    a_want_number := _, d_want_number := _, F_want_number := F10, b_want_number := b10, m_want_number := He.glo_ok X G h_want_number
    a_want_cell := _, d_want_cell := _, F_want_cell := F11, b_want_cell := b11, m_want_cell := He.glo_ok X G h_want_cell
    a_want_stretch := _, d_want_stretch := _, F_want_stretch := F12, b_want_stretch := b12, m_want_stretch := He.glo_ok X G h_want_stretch
    a_Memory_init := _, d_Memory_init := _, F_Memory_init := F13, b_Memory_init := b13, mk_Memory := He.mkr_ok hm_Memory
    a_Memory_size := _, d_Memory_size := _, F_Memory_size := F14, b_Memory_size := b14, me_Memory_size := He.meth_ok h_Memory_size
    a_Memory_at := _, d_Memory_at := _, F_Memory_at := F15, b_Memory_at := b15, me_Memory_at := He.meth_ok h_Memory_at
    a_Memory_runs := _, d_Memory_runs := _, F_Memory_runs := F16, b_Memory_runs := b16, me_Memory_runs := He.meth_ok h_Memory_runs
    a_Memory_lay := _, d_Memory_lay := _, F_Memory_lay := F17, b_Memory_lay := b17, me_Memory_lay := He.meth_ok h_Memory_lay
    a_Memory_put := _, d_Memory_put := _, F_Memory_put := F18, b_Memory_put := b18, me_Memory_put := He.meth_ok h_Memory_put
    a_Memory_fill := _, d_Memory_fill := _, F_Memory_fill := F19, b_Memory_fill := b19, me_Memory_fill := He.meth_ok h_Memory_fill
    a_Memory_bring := _, d_Memory_bring := _, F_Memory_bring := F20, b_Memory_bring := b20, me_Memory_bring := He.meth_ok h_Memory_bring
    a_Memory_copied := _, d_Memory_copied := _, F_Memory_copied := F21, b_Memory_copied := b21, me_Memory_copied := He.meth_ok h_Memory_copied
    a_Memory_eq := _, d_Memory_eq := _, F_Memory_eq := F22, b_Memory_eq := b22, me_Memory_eq := He.meth_ok h_Memory_eq
    a_Memory_len := _, d_Memory_len := _, F_Memory_len := F23, b_Memory_len := b23, me_Memory_len := He.meth_ok h_Memory_len
    a_Memory_repr := _, d_Memory_repr := _, F_Memory_repr := F24, b_Memory_repr := b24, me_Memory_repr := He.meth_ok h_Memory_repr
    a_memory_of := _, d_memory_of := _, F_memory_of := F25, b_memory_of := b25, m_memory_of := He.glo_ok X G h_memory_of
    a_Lone_init := _, d_Lone_init := _, F_Lone_init := F26, b_Lone_init := b26, mk_Lone := He.mkr_ok hm_Lone
    a_Lone_come_to := _, d_Lone_come_to := _, F_Lone_come_to := F27, b_Lone_come_to := b27, me_Lone_come_to := He.meth_ok h_Lone_come_to
    a_Lone_rest := _, d_Lone_rest := _, F_Lone_rest := F28, b_Lone_rest := b28, me_Lone_rest := He.meth_ok h_Lone_rest
    a_Lone_is_at_fork := _, d_Lone_is_at_fork := _, F_Lone_is_at_fork := F29, b_Lone_is_at_fork := b29, me_Lone_is_at_fork := He.meth_ok h_Lone_is_at_fork
    a_Lone_parted := _, d_Lone_parted := _, F_Lone_parted := F30, b_Lone_parted := b30, me_Lone_parted := He.meth_ok h_Lone_parted
    a_Lone_goal_of := _, d_Lone_goal_of := _, F_Lone_goal_of := F31, b_Lone_goal_of := b31, me_Lone_goal_of := He.meth_ok h_Lone_goal_of
    a_Lone_change := _, d_Lone_change := _, F_Lone_change := F32, b_Lone_change := b32, me_Lone_change := He.meth_ok h_Lone_change
    a_Lone_lead := _, d_Lone_lead := _, F_Lone_lead := F33, b_Lone_lead := b33, me_Lone_lead := He.meth_ok h_Lone_lead
    a_Lone_step := _, d_Lone_step := _, F_Lone_step := F34, b_Lone_step := b34, me_Lone_step := He.meth_ok h_Lone_step
    a_is_path := _, d_is_path := _, F_is_path := F35, b_is_path := b35, m_is_path := He.glo_ok X G h_is_path
    a_gone_alone := _, d_gone_alone := _, F_gone_alone := F36, b_gone_alone := b36, m_gone_alone := He.glo_ok X G h_gone_alone
    a_fits := _, d_fits := _, F_fits := F37, b_fits := b37, m_fits := He.glo_ok X G h_fits
    a_is_program_row := _, d_is_program_row := _, F_is_program_row := F38, b_is_program_row := b38, m_is_program_row := He.glo_ok X G h_is_program_row
    a_Program_init := _, d_Program_init := _, F_Program_init := F39, b_Program_init := b39, mk_Program := He.mkr_ok hm_Program
    a_Program_size := _, d_Program_size := _, F_Program_size := F40, b_Program_size := b40, me_Program_size := He.meth_ok h_Program_size
    a_Program_rows := _, d_Program_rows := _, F_Program_rows := F41, b_Program_rows := b41, me_Program_rows := He.meth_ok h_Program_rows
    a_Program_eq := _, d_Program_eq := _, F_Program_eq := F42, b_Program_eq := b42, me_Program_eq := He.meth_ok h_Program_eq
    a_Program_len := _, d_Program_len := _, F_Program_len := F43, b_Program_len := b43, me_Program_len := He.meth_ok h_Program_len
    a_law_pot := _, d_law_pot := _, F_law_pot := F44, b_law_pot := b44, m_law_pot := He.glo_ok X G h_law_pot
    a_law_take := _, d_law_take := _, F_law_take := F45, b_law_take := b45, m_law_take := He.glo_ok X G h_law_take
    a_law_part := _, d_law_part := _, F_law_part := F46, b_law_part := b46, m_law_part := He.glo_ok X G h_law_part
    a_law_joined := _, d_law_joined := _, F_law_joined := F47, b_law_joined := b47, m_law_joined := He.glo_ok X G h_law_joined
    a_law_with := _, d_law_with := _, F_law_with := F48, b_law_with := b48, m_law_with := He.glo_ok X G h_law_with
    a_law_width := _, d_law_width := _, F_law_width := F49, b_law_width := b49, m_law_width := He.glo_ok X G h_law_width
    a_law_cell := _, d_law_cell := _, F_law_cell := F50, b_law_cell := b50, m_law_cell := He.glo_ok X G h_law_cell
    a_law_much := _, d_law_much := _, F_law_much := F51, b_law_much := b51, m_law_much := He.glo_ok X G h_law_much
    a_law_written := _, d_law_written := _, F_law_written := F52, b_law_written := b52, m_law_written := He.glo_ok X G h_law_written
    a_law_row_drawn := _, d_law_row_drawn := _, F_law_row_drawn := F53, b_law_row_drawn := b53, m_law_row_drawn := He.glo_ok X G h_law_row_drawn
    a_law_loop := _, d_law_loop := _, F_law_loop := F54, b_law_loop := b54, m_law_loop := He.glo_ok X G h_law_loop
    a_law_plan := _, d_law_plan := _, F_law_plan := F55, b_law_plan := b55, m_law_plan := He.glo_ok X G h_law_plan
    a_law_comes := _, d_law_comes := _, F_law_comes := F56, b_law_comes := b56, m_law_comes := He.glo_ok X G h_law_comes
    a_law_begun := _, d_law_begun := _, F_law_begun := F57, b_law_begun := b57, m_law_begun := He.glo_ok X G h_law_begun
    a_law_at := _, d_law_at := _, F_law_at := F58, b_law_at := b58, m_law_at := He.glo_ok X G h_law_at
    a_law_led := _, d_law_led := _, F_law_led := F59, b_law_led := b59, m_law_led := He.glo_ok X G h_law_led
    a_law_put_there := _, d_law_put_there := _, F_law_put_there := F60, b_law_put_there := b60, m_law_put_there := He.glo_ok X G h_law_put_there
    a_law_does := _, d_law_does := _, F_law_does := F61, b_law_does := b61, m_law_does := He.glo_ok X G h_law_does
    a_law_turn := _, d_law_turn := _, F_law_turn := F62, b_law_turn := b62, m_law_turn := He.glo_ok X G h_law_turn
    a_law_due := _, d_law_due := _, F_law_due := F63, b_law_due := b63, m_law_due := He.glo_ok X G h_law_due
    a_law_told := _, d_law_told := _, F_law_told := F64, b_law_told := b64, m_law_told := He.glo_ok X G h_law_told
    a_law_right := _, d_law_right := _, F_law_right := F65, b_law_right := b65, m_law_right := He.glo_ok X G h_law_right
    a_law := _, d_law := _, F_law := F66, b_law := b66, m_law := He.glo_ok X G h_law
    kb_gone_alone_0_path_program := kbK (ps := ["program", "path", "most"]) F36 0 ["path", "program"] ([("most", V.int 1000)] : List (Str × V)) [1, 0, 2] (by simp) (by simp) fun _ _ _ _ _ _ us mv ws h1 h2 h3 => match us, mv, ws, h1, h2, h3 with | [], [_], [_, _], _, _, _ => ⟨_, _, _, _, _, _, rfl, rfl, rfl⟩
    t_DONE := t_DONE, g_DONE := g_DONE
    t_ELDER := t_ELDER, g_ELDER := g_ELDER
    t_FAILED := t_FAILED, g_FAILED := g_FAILED
    t_FORK := t_FORK, g_FORK := g_FORK
    t_LARGEST := t_LARGEST, g_LARGEST := g_LARGEST
    t_MOST := t_MOST, g_MOST := g_MOST
    t_NO_ROW := t_NO_ROW, g_NO_ROW := g_NO_ROW
    t_YOUNGER := t_YOUNGER, g_YOUNGER := g_YOUNGER
    n_ArithmeticError := He.free_ok X G hb_ArithmeticError
    n_ValueError := He.free_ok X G hb_ValueError
    n_abs := He.free_ok X G hb_abs
    n_all := He.free_ok X G hb_all
    n_any := He.free_ok X G hb_any
    n_bool := He.free_ok X G hb_bool
    n_divmod := He.free_ok X G hb_divmod
    n_enumerate := He.free_ok X G hb_enumerate
    n_int := He.free_ok X G hb_int
    n_isinstance := He.free_ok X G hb_isinstance
    n_len := He.free_ok X G hb_len
    n_list := He.free_ok X G hb_list
    n_max := He.free_ok X G hb_max
    n_min := He.free_ok X G hb_min
    n_range := He.free_ok X G hb_range
    n_repr := He.free_ok X G hb_repr
    n_str := He.free_ok X G hb_str
    n_sum := He.free_ok X G hb_sum
    n_tuple := He.free_ok X G hb_tuple
    n_zip := He.free_ok X G hb_zip
  }
  have bL := FunD.bindsA (ps := ["_law_script"]) F66 fun _ _ _ _ _ _ us hl => match us, hl with | [_], _ => rfl
  exact ⟨_, fun s v => bL s [v] rfl, fun base _ _ => ok_law T⟩
end My
open PySem PySem.W PySem.Calls PyProof.Rows in
set_option maxRecDepth 100000 in
set_option maxHeartbeats 0 in
theorem PySem.Challenge.cw_forkthrift_k81_whole_paths_gone_alone_holds : PySem.Challenge.rw_forkthrift_k81_whole_paths_gone_alone.Holds := by
  w_on; o_law
  refine HandSHeadRun.head_any (r := OpenLaw.row PySem.Challenge.rw_forkthrift_k81_whole_paths_gone_alone) (q := view (OpenLaw.row PySem.Challenge.rw_forkthrift_k81_whole_paths_gone_alone).prog [67]) (H := My.hkH) (ob := My.obH) (M := 200000) (loose := My.lsH) (d := HandSHeadRun.topDef (OpenLaw.row PySem.Challenge.rw_forkthrift_k81_whole_paths_gone_alone).prog 67) (kwd := []) My.obH_eq
    (by kernel_rfl) (fun s => by kernel_rfl) My.runH (by kernel_rfl) (by kernel_rfl) (by kernel_rfl) (by rfl) (by first | assumption | decide +kernel) (by decide +kernel) ⟨rfl, rfl, rfl, rfl, rfl, by decide +kernel⟩ ?hw ?hc
  case hw => w_witness2
  case hc =>
    refine My.walkH (l := PySem.Challenge.rw_forkthrift_k81_whole_paths_gone_alone) (sp := My.sp_law) (n := 63) (k := 13) (x := "_law_script") rfl (by decide) (by kernel_rfl) ⟨rfl, by decide, by decide⟩ ?F ?S
    case S => exact fun K H a ns hl hb ho hs => My.law_end hl hb ho hs
    case F =>
      intro w mg fa h Y G hmg0
      obtain ⟨K, KX, c, e, e3⟩ := Y
      have hmg : mg ("law" : PySem.Str) = some (.ref fa) := by
        have e : (HandSHeadRun.topDef (OpenLaw.row PySem.Challenge.rw_forkthrift_k81_whole_paths_gone_alone).prog 67).name = ("law" : PySem.Str) := by kernel_rfl
        rw [← e]
        exact hmg0
      obtain ⟨fd, hb, hF⟩ := My.all_mkH (P := (PySem.Challenge.rw_forkthrift_k81_whole_paths_gone_alone).prog) (w := w) KX G hmg c e e3
      exact ⟨K, fd, KX, hb, hF⟩
#print axioms PySem.Challenge.cw_forkthrift_k81_whole_paths_gone_alone_holds

