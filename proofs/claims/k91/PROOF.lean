import PyProof.Rows.All
import Wide.All
import OpenK.AllK
import Wide.FinOn
import HandS.ForMost
import HandS.ForExc
import HandS.WideBits
import HandS.EndBits
import HandS.Defaults
import HandS.FStrTup
import HandS.IsInst
import HandS.More
import HandS.Style
import HandS.Steps
import HandS.MakeKwOnly
import HandS.SortInts
import HandS.SortRule
import HandS.Small
import HandS.Strs
import HandS.FStr
import HandS.Codes
import HandS.DeepEq
import HandS.ExcInit
import HandS.ExcIs
import HandS.ExcField
import KE.KExcIs
import HandS.Zip
import HandS.Conv
import HandS.HeadHook3
import KE.GoesMore
import KE.GoesEnum
import KE.KUnpackStar
import HandS.Text
import HandS.StrMore
import HandS.RaiseMore
import HandS.Iter
import KE.IntTextLaws
import KE.KStateDown
import HandS.Head0
import HandS.Head1
import HandS.Head2
import HandS.HeadHook1
import HandS.HeadHook2
import PySem.Challenge.RW_forkthrift_k91_whole_program_texts
set_option Elab.async false
set_option linter.all false
set_option maxRecDepth 100000
set_option maxHeartbeats 4000000
namespace G
/-- a step of a walk that asks nothing -/
class Red (g : Prop) (n : outParam Prop) : Prop where
  r : n → g
open PySem PySem.Spec PyProof.Rows L2

/-! the call layer once more, with the guards known -/
structure RoomG (k : Nat) (A : Around) : Prop where
  r : Room k A
  g : A.guards = some []
theorem RoomG.mono {j k : Nat} {A : Around} (z : RoomG k A) (h : j ≤ k) : RoomG j A :=
  ⟨z.r.mono h, z.g⟩
theorem RoomG.deeper {k : Nat} {A : Around} (z : RoomG (k + 1) A) (env : Env) :
    RoomG k (A.deeper env) := ⟨z.r.deeper env, z.g⟩
theorem make_guards {A : Around} {C : Addr} {us : List Value} {kw : List (Str × Value)} :
    (A.under (.builtin "type.__call__" ⟨.ref C :: us, kw⟩)).guards = A.guards := by
  first
    | rfl
    | (simp only [Around.under]
       rw [pushGuards_eq]
       have e : Code.guards (.builtin "type.__call__" ⟨.ref C :: us, kw⟩) = [] := by
         simp [Code.guards, Code.isGuard, guardIds]
       rw [e]
       cases A.guards <;> rfl)
theorem RoomG.make {k : Nat} {A : Around} (z : RoomG (k + 1) A) (C : Addr) (us : List Value)
    (kw : List (Str × Value)) : RoomG k (A.under (.builtin "type.__call__" ⟨.ref C :: us, kw⟩)) :=
  ⟨z.r.make C us kw, make_guards.trans z.g⟩

structure FnG (P : Program) (w : World) (K : PySem.W.Frag) (mg : Str → Option Value) (base : Heap)
    (k : Nat) (f : Addr) (fd : FuncData) (ps : List Str) (sp : Sp) : Prop where
  len : ∀ vs H Q E, sp vs H Q E → vs.length = ps.length
  run : ∀ (A : Around) (outer : List Env) (s : Shared) (H : Hp) (args : Args) (us : List Value)
    (vs : List V) (Q : VK) (E : XK), RoomG k A → Env0 P w K mg base A outer s H →
    BindsTo s fd args (ps.zip us) → Vals vs us → sp vs H Q E →
    codeAny (model P w) A (.call (.ref f) args) (CR (L2.CX P w) outer P w H s Q E) s
section
variable {P : Program} {w : World} {K : PySem.W.Frag} {mg : Str → Option Value} {base : Heap}
theorem FnG.mono {j k : Nat} {f : Addr} {fd : FuncData} {ps : List Str} {sp : Sp}
    (F : FnG P w K mg base j f fd ps sp) (h : j ≤ k) : FnG P w K mg base k f fd ps sp :=
  ⟨F.len, fun A o s H args us vs Q E z => F.run A o s H args us vs Q E (z.mono h)⟩
theorem FnG.of {k : Nat} {f : Addr} {fd : FuncData} {ps : List Str} {sp : Sp}
    (F : FnOk P w K mg base (L2.CX P w) k f fd ps sp) : FnG P w K mg base k f fd ps sp :=
  ⟨F.len, fun A o s H args us vs Q E z => F.run A o s H args us vs Q E z.r⟩

/-- a def by its body -/
theorem FnG.body {k : Nat} {f : Addr} {name qual : Str} {params : Arguments} {body : List Stmt}
    {sc : Scope} {dV kV doc pm cdv ct oc : Value} {an od : Option Addr} {osl : Array (Option Value)}
    {N ps : List Str} {sp : Sp}
    (lk : K.lookup f = some ⟨oc, od, .func (PySem.W.fnOf name qual params body sc dV kV doc pm an cdv ct), osl⟩)
    (hcd : PySem.W.codeIn K cdv qual = true) (S : FnScope N ps sc)
    (len : ∀ vs H Q E, sp vs H Q E → vs.length = ps.length)
    (hb : ∀ (A : Around) (outer : List Env) (s : Shared) (H : Hp) (vs : List V) (Q : VK) (E : XK),
      RoomG k (A.deeper (envOfC qual sc s.heap.objs.size f cdv)) → sp vs H Q E →
      ∃ t, PSs (cxOf (L2.CX P w) P w K mg base N qual sc f cdv A outer s H E) body t ∧
        t { nx := fun _ H' => Q .non H', rt := Q } (start N vs) H) :
    FnG P w K mg base (k + 1) f
      (PySem.W.fnOf name qual params body sc dV kV doc pm an cdv ct) ps sp := by
  refine ⟨len, ?_⟩
  intro A outer s H args us vs Q E z e0 bd rv hsp
  have n0 := len _ _ _ _ hsp
  have kin : K.In s.heap :=
    e0.mod.kin.keeps (fun b o e => (e0.bs b o e).1)
  have lim : s.heap.NoLimit :=
    e0.mod.nolimit.keeps (fun b o e => (e0.bs b o e).1)
  have kinds : ∀ y ∈ ps.zip us, sc.names.lookup y.1 = some .local ∨
      (sc.names.lookup y.1 = some .cell ∧
        ((cellsFrom (s.heap.objs.size + 1) sc.names []).lookup y.1).isSome = true) := by
    intro y hy
    obtain ⟨m, v⟩ := y
    cases S.par m (List.of_mem_zip hy).1 with
    | inl q => exact Or.inl q
    | inr q => exact Or.inr ⟨q, PySem.W.cellsFrom_some _ _ _ (Or.inl q)⟩
  refine codeAny_call_function z.r.depth (kin _ _ lk) rfl S.co S.gen rfl
    (PySem.W.codeRec_of kin hcd) (bd _ _ _ _ ?_)
  refine wpAny_newFunctionEnv_cells S.kind kinds ?_
  intro env he s1 x
  subst he
  refine ⟨lim.keeps x.toInCall.keep, ?_⟩
  refine codeAny_func ?_
  obtain ⟨t, ht, hq⟩ := hb A outer s H vs Q E (z.deeper _) hsp
  have I := inv_start (CX := L2.CX P w) (K := K) (mg := mg) (base := base) (E := E)
    S z.r.hd e0 n0 rv x
  refine wpAny_mono (ht.run [] s1 (start N vs) H _ I hq) ?_ (fun e s' hs => hs)
  intro fl s' hs
  have fin : ∀ {τ : L2.St} {G : Hp} {v : V} {u : Value},
      Inv (cxOf (L2.CX P w) P w K mg base N qual sc f cdv A outer s H E) [] τ G s' →
      RelV v u → Q v G → CE outer P w H s Q u s' := by
    intro τ G v u J r q
    exact ⟨v, G, J.os, J.bare, J.base, J.hok, r, q⟩
  match fl, hs with
  | .ret u, ⟨v, τ, G, J, r, q⟩ => exact fin J r q
  | .next, ⟨τ, G, J, q⟩ => exact fin (v := .non) (u := Value.none) J rfl q
  | .brk, ⟨_, _, _, q⟩ => exact False.elim q
  | .cont, ⟨_, _, _, q⟩ => exact False.elim q
end
end G
namespace G
open PySem PySem.Spec PyProof.Rows L2
section
variable {X : Cx} {k n : Nat} {f C : Addr} {fd : FuncData} {ps ks : List Str} {sp : Sp}
variable {dvs : List V} {ds : List Value} {E : XK} {x m : Str} {p pos apos : Pos} {e o : Expr}
variable {es : List Expr} {ta : TE} {t tk : TA} {pins : List (Addr × Obj)} {σ : L2.St} {H : Hp}
variable {s s' : Shared} {Q : VK}
abbrev Fg (X : Cx) (k : Nat) (f : Addr) (fd : FuncData) (ps : List Str) (sp : Sp) : Prop :=
  FnG X.prog X.w X.K X.mg X.base k f fd ps sp
abbrev Ps (X : Cx) (E : XK) : Prop := Passes (L2.CX X.prog X.w) X E

def Got (X : Cx) (R : Value → Shared → Prop) : Result → Shared → Prop
  | .ok (.ret u), s' => R u s'
  | .ok _, _ => False
  | .error e, s' => X.xe e s'
theorem ended (I : Inv X pins σ H s) (hx : Ps X E) {R : Value → Shared → Prop}
    (hR : ∀ u s', CE X.stack X.prog X.w H s Q u s' → R u s') {r : Result}
    (q : CR (L2.CX X.prog X.w) X.stack X.prog X.w H s Q E r s') : Got X R r s' := by
  match r, q with
  | .error e, q => exact hx pins σ H s e s' I q
  | .ok (.ret u), q => exact hR u s' q
  | .ok .next, q => exact False.elim q
  | .ok .brk, q => exact False.elim q
  | .ok .cont, q => exact False.elim q

theorem runG {args : Args} {us : List Value} {vs : List V} (F : Fg X k f fd ps sp)
    (z : RoomG k X.A) (hb : BindsTo s fd args (ps.zip us)) (hx : Ps X E) (I : Inv X pins σ H s)
    (rv : Vals vs us) (h : sp vs H Q E) :
    codeAny (model X.prog X.w) X.A (.call (.ref f) args) (Got X (EP X pins σ Q)) s := by
  refine codeAny_mono (F.run X.A X.stack s H args us vs Q E z I.env0 hb rv h) ?_
  intro r s' q
  exact ended I hx (fun u s' c => I.after c) q

theorem run1 {us : List Value} {vs : List V} (F : Fg X k f fd ps sp) (z : RoomG k X.A)
    (hb : Binds X.K fd ps ds) (hd : Vals dvs ds) (hx : Ps X E) (I : Inv X pins σ H s)
    (rv : Vals vs us) (h : sp (vs ++ dvs) H Q E) :
    wpAny (model X.prog X.w) X.A (call (.ref f) us) (EP X pins σ Q) X.xe s := by
  have r2 : Vals (vs ++ dvs) (us ++ ds) := rv.append hd
  have hl : (us ++ ds).length = ps.length := by
    rw [← r2.length]
    exact F.len _ _ _ _ h
  refine wpAny_call (codeAny_mono (runG F z (hb s us I.kIn hl) hx I r2 h) ?_)
  intro r s' q
  match r, q with
  | .error e, q => exact q
  | .ok (.ret u), q => exact q
  | .ok .next, q => exact q
  | .ok .brk, q => exact q
  | .ok .cont, q => exact q

theorem c1 (F : Fg X k f fd ps sp) (z : RoomG k X.A) (hg : Gl X x) (hm : X.mg x = some (.ref f))
    (hk : PySem.W.keepIn X.K (.ref f) = true) (hb : Binds X.K fd ps ds) (hd : Vals dvs ds)
    (hx : Ps X E) (ha : PA X (e :: es) t)
    (hdb : (x == ("__debug__" : Str)) = false := by decide)
    (he : starEach (e :: es) X.env = (false, eval e X.env) :: starEach es X.env := by rfl)
    (hpl : (backTo pos (starEach es X.env)).any (·.1) = false := by rfl) :
    PE X (.Call (.Name x p) (e :: es) [] pos) (tCall sp dvs E t) := by
  constructor
  intro pins s σ H Q I h
  refine wpAny_Call_Name_kw (ld_glob I hg hm ?_ hdb)
  refine PySem.W.callWith_K (h₀ := X.base) I.ok.mod.kin hk ?_ he hpl
  refine thn (ha.run pos pins s σ H _ I h) ?_
  intro us s1 y
  obtain ⟨vs, H1, I1, r, q⟩ := y
  exact ⟨I1.kIn, run1 F z hb hd hx I1 r q⟩

theorem c0 (F : Fg X k f fd ps sp) (z : RoomG k X.A) (hg : Gl X x) (hm : X.mg x = some (.ref f))
    (hk : PySem.W.keepIn X.K (.ref f) = true) (hb : Binds X.K fd ps ds) (hd : Vals dvs ds)
    (hx : Ps X E) (hdb : (x == ("__debug__" : Str)) = false := by decide) :
    PE X (.Call (.Name x p) [] [] pos) (tCall sp dvs E tNil) := by
  constructor
  intro pins s σ H Q I h
  refine wpAny_Call_Name_kw (ld_glob I hg hm ?_ hdb)
  exact PySem.W.callWith_K0 I.kIn hk (run1 (us := []) F z hb hd hx I .nil h)

/-- o.m(..) -/
theorem cm {pl : Sem Bool} (he : PE X o ta) (c : Cls X.K C) (hm : Meth X.K C m f)
    (F : Fg X k f fd ps sp) (z : RoomG k X.A) (hb : Binds X.K fd ps ds) (hd : Vals dvs ds)
    (hx : Ps X E) (ha : PA X (e :: es) t)
    (hst : starEach (e :: es) X.env = (false, eval e X.env) :: starEach es X.env := by rfl)
    (hpl : (backTo pos (starEach es X.env)).any (·.1) = false := by rfl)
    (ht : eval (.Call (.Attribute o m apos) (e :: es) [] pos) X.env = (do
      let y ← eval o X.env
      standAt apos.atName
      let (g, a) ← holding [y] (getMethod y m pl)
      callWith pos g a (backTo pos (starEach (e :: es) X.env))
        (backToKw pos (keywordEach [] X.env))) := by rfl) :
    PE X (.Call (.Attribute o m apos) (e :: es) [] pos) (tMeth C m sp dvs E ta t) := by
  constructor
  intro pins s σ H Q I h
  refine PySem.W.methodCall_KW (pl := pl) (thn (he.run pins s σ H _ I h) ?_) ht
  intro u s1 y
  obtain ⟨v, H1, I1, rx, a, dx, fs, ex, ea, l, q⟩ := y
  subst ex
  obtain rfl : u = Value.ref a := rx
  refine getmeth_ok I1 ea c hm l ?_
  refine PySem.W.callWith_K (first := [.ref a]) (h₀ := X.base) I.ok.mod.kin hm.kp ?_ hst hpl
  refine thn (ha.run pos pins s1 σ H1 _ I1 q) ?_
  intro us s2 y
  obtain ⟨vs, H2, I2, r, q2⟩ := y
  exact ⟨I2.kIn, run1 (us := .ref a :: us) (vs := .ref a :: vs) F z hb hd hx I2 (.cons rfl r) q2⟩
/-- o.m() -/
theorem cm0 {pl : Sem Bool} (he : PE X o ta) (c : Cls X.K C) (hm : Meth X.K C m f)
    (F : Fg X k f fd ps sp) (z : RoomG k X.A) (hb : Binds X.K fd ps ds) (hd : Vals dvs ds)
    (hx : Ps X E)
    (ht : eval (.Call (.Attribute o m apos) [] [] pos) X.env = (do
      let y ← eval o X.env
      standAt apos.atName
      let (g, a) ← holding [y] (getMethod y m pl)
      callWith pos g a (backTo pos (starEach [] X.env))
        (backToKw pos (keywordEach [] X.env))) := by rfl) :
    PE X (.Call (.Attribute o m apos) [] [] pos) (tMeth C m sp dvs E ta tNil) := by
  constructor
  intro pins s σ H Q I h
  refine PySem.W.methodCall_KW (pl := pl) (thn (he.run pins s σ H _ I h) ?_) ht
  intro u s1 y
  obtain ⟨v, H1, I1, rx, a, dx, fs, ex, ea, l, q⟩ := y
  subst ex
  obtain rfl : u = Value.ref a := rx
  refine getmeth_ok I1 ea c hm l ?_
  refine PySem.W.callWith_K0 (first := [.ref a]) I1.kIn hm.kp ?_
  exact run1 (us := [.ref a]) (vs := [.ref a]) F z hb hd hx I1 (.cons rfl .nil) q
end
end G
namespace G
open PySem PySem.Spec PyProof.Rows L2

/-- the heap at the law's entry: the script alone is tracked, or nothing -/
theorem lawG {P : Program} {w : World} {K : PySem.W.Frag} {mg mb : Str → Option Value} {k : Nat}
    {fa a : Addr} {fd : FuncData} {x : Str} {sp : Sp} {s0 : Shared} {vs : List Value}
    {ns : List Int} (kin : K.In s0.heap) (hns : s0.heap.Ns mainGlobals mg)
    (hb : s0.heap.Ns builtinsNs mb) (hbb : ∀ y : Str, y ≠ "__name__" → mb y = bootBuiltins y)
    (lim : s0.heap.NoLimit) (hg : s0.gens = #[])
    (ha : s0.heap.get? a = some { cls := .type "list", data := .seq vs.toArray })
    (hi : IntsAre vs ns) (hl : ns.length ≤ sizeLine) (z : RoomG k callerA)
    (F : ∀ base : Heap, K.In base → base.Ns mainGlobals mg → FnG P w K mg base k fa fd [x] sp)
    (bd : ∀ (s : Shared) (u : Value), BindsTo s fd ⟨[u], []⟩ [(x, u)])
    (hsp : ∀ H : Hp, Only H → SqL K H a (ns.map V.int) →
      sp [.ref a] H (fun v _ => v = .bl true) fun _ _ _ => False) :
    codeAny (model P w) callerA (.call (.ref fa) ⟨[.ref a], []⟩)
      (fun r s' => r = .ok (.ret (.bool true)) ∧ OldK s0.heap s'.heap ∧ s'.os = s0.os ∧
        AllBare s'.gens) s0 := by
  have rv := vals_ints hi
  have lv := hi.length
  have core : ∀ H : Hp, Only H → SqL K H a (ns.map V.int) → HOk P w H s0.heap →
      (∀ b, H b ≠ none → b = a) → (H a ≠ none → K.lookup a = none) →
      codeAny (model P w) callerA (.call (.ref fa) ⟨[.ref a], []⟩)
        (fun r s' => r = .ok (.ret (.bool true)) ∧ OldK s0.heap s'.heap ∧ s'.os = s0.os ∧
          AllBare s'.gens) s0 := by
    intro H only sq hok only_a notK
    have at_a : ∀ {b : Addr}, H b ≠ none → b = a := fun {b} q => only_a b q
    have seqs : ∀ {b : Addr} {o : Obj} {es : Array DictEntry} {ep : Nat},
        s0.heap.get? b = some o → o.data = .dict es ep → H b = none := by
      intro b o es ep e d
      cases q : H b with
      | none => rfl
      | some u =>
        obtain rfl := at_a (b := b) (by rw [q]; exact fun y => nomatch y)
        rw [ha] at e
        cases e
        have d' : Data.seq vs.toArray _ = Data.dict es ep := d
        cases d'
    have nsb : ∀ {b : Addr} {g : Str → Option Value}, s0.heap.Ns b g →
        (hidT s0.heap H).Ns b g := by
      intro b g y
      obtain ⟨o, es, ep, e, d, r⟩ := y
      exact ⟨o, es, ep, hidT_get e (seqs e d), d, r⟩
    have kb : K.In (hidT s0.heap H) := by
      intro b o e
      refine hidT_get (kin b o e) ?_
      cases q : H b with
      | none => rfl
      | some u =>
        obtain rfl := at_a (b := b) (by rw [q]; exact fun y => nomatch y)
        rw [notK (by rw [q]; exact fun y => nomatch y)] at e
        cases e
    have md : Mod K mg (hidT s0.heap H) := by
      obtain ⟨mc, l1, l2⟩ := lim
      exact ⟨kb, nsb hns, ⟨mb, nsb hb, hbb⟩, ⟨mc, nsb l1, l2⟩⟩
    have e0 : Env0 P w K mg (hidT s0.heap H) callerA [] s0 H :=
      ⟨rfl, md, fun b o e => of_hidT e, Nat.le_of_eq (hidT_size _ _), trivial,
        fun b q => absurd (show b ∈ ([] : List Addr) from q) List.not_mem_nil, hok, .of_eq hg⟩
    have run := (F _ kb (nsb hns)).run callerA [] s0 H ⟨[.ref a], []⟩ [.ref a] [.ref a] _ _
      z e0 (bd s0 (.ref a)) (.cons rfl .nil) (hsp H only sq)
    refine codeAny_mono run ?_
    intro r s' h
    match r, h with
    | .error e, h =>
      obtain ⟨_, _, _, _, _, _, _, _, _, _, _, _, y⟩ := h
      exact y.elim
    | .ok .next, h => exact False.elim h
    | .ok .brk, h => exact False.elim h
    | .ok .cont, h => exact False.elim h
    | .ok (.ret u), h =>
      obtain ⟨v, H', os, bare, un, hok', r', q⟩ := h
      have q' : v = .bl true := q
      subst q'
      obtain rfl : u = Value.bool true := r'
      refine ⟨rfl, OldK.of_keep ?_, os, bare⟩
      intro b o e
      cases q : H b with
      | none =>
        exact un.keep b o e q (fun y => absurd (show b ∈ ([] : List Addr) from y) List.not_mem_nil)
          List.not_mem_nil
      | some u =>
        rcases only b with y | ⟨ob, xs, y⟩
        · rw [q] at y
          cases y
        · obtain ⟨e1, _⟩ := hok b _ y
          obtain ⟨e2, _⟩ := hok' b _ (un.frzs b ob _ y)
          rw [e] at e1
          cases e1
          exact e2
  cases hk : K.lookup a with
  | some o =>
    have e := kin a o hk
    rw [ha] at e
    cases e
    refine core (fun _ => none) (fun _ => Or.inl rfl) (Or.inr ?_) ?_ (fun b y => absurd rfl y)
      (fun y => absurd rfl y)
    · refine ⟨_, vs.toArray, _, hk, rfl, rfl, rfl, ?_, ?_⟩
      · rw [List.size_toArray, lv]
        exact hl
      · simpa using rv
    · intro b u y
      have y' : (none : Option HO) = some u := y
      cases y'
  | none =>
    refine core (fun b => if b = a then
      some (.frz { cls := .type "list", data := .seq vs.toArray } (.lst (ns.map V.int)))
      else none) ?_ (Or.inl (Or.inr ⟨_, if_pos rfl⟩)) ?_ ?_ (fun _ => hk)
    · intro b
      by_cases q : b = a
      · exact Or.inr ⟨_, _, if_pos q⟩
      · exact Or.inl (if_neg q)
    · intro b u y
      by_cases q : b = a
      · have y' := (if_pos q).symm.trans y
        cases y'
        subst q
        refine ⟨ha, ?_, vs, _, rv, ha⟩
        rw [List.length_map]
        exact hl
      · have y' := (if_neg q).symm.trans y
        cases y'
    · intro b y
      by_cases q : b = a
      · exact q
      · exact absurd (if_neg q) y

/-- the end of a law row, the script's bits told -/
theorem walkG {l : PySem.W.OpenLaw} {n k : Nat} {q : Program} {loose : List Str}
    {XP : (Str → Option Value) → Heap → Prop} {YP : World → Heap → Prop} {d : DefRec}
    {K : Params → PySem.W.Frag} {sp : PySem.W.Frag → Sp} {x : Str} (hn : l.most = some n)
    (hn2 : n ≤ sizeLine) (hdf : d.params.defaults = []) (hr : Room k callerA)
    (hY : ∀ (w : World) (h : Heap), YP w h → (K w.params).In h)
    (F : ∀ (w : World) (mg : Str → Option Value) (fa : Addr) (h : Heap), (K w.params).In h →
      h.Ns mainGlobals mg → mg d.name = some (.ref fa) →
      ∃ fd : FuncData, (∀ (s : Shared) (u : Value), BindsTo s fd ⟨[u], []⟩ [(x, u)]) ∧
        ∀ base : Heap, (K w.params).In base → base.Ns mainGlobals mg →
          FnG l.prog w (K w.params) mg base k fa fd [x] (sp (K w.params)))
    (hsp : ∀ (K : PySem.W.Frag) (H : Hp) (a : Addr) (ns : List Int), ns.length ≤ n →
      (∀ z ∈ ns, Builtin.Int.intBits z ≤ 1048576) → Only H → SqL K H a (ns.map V.int) →
      sp K [.ref a] H (fun v _ => v = .bl true) fun _ _ _ => False) :
    PySem.W.WalkO q loose XP YP l.row.toRowW d [] (fun f vs => PySem.call f vs) := by
  refine Att.attach_callB hn hdf ?_
  intro w s0 s1 mg mb fa o pm cd doc a vs ns T Y ho hd hcd hmg hobj hints hlen hbits hg
  have kin := hY w _ Y
  obtain ⟨fd, hb, hF⟩ := F w mg fa _ kin T.T.g hmg
  exact lawG kin T.T.g T.T.b T.T.builtins T.T.nolimit hg hobj hints (Nat.le_trans hlen hn2)
    ⟨hr, rfl⟩ hF hb (fun H hO hS => hsp _ H a ns hlen hbits hO hS)
end G
namespace G
open PySem PySem.Spec PyProof.Rows L2

/-! ### repr of data -/

mutual
def cw : PyData → Nat
  | .none => 4
  | .bool _ => 5
  | .int _ => 1930
  | .str x => 10 * x.length + 4
  | .list xs => cws xs + 2
  | .tuple xs => cws xs + 2
  | .dict _ => 0
def cws : List PyData → Nat
  | [] => 0
  | x :: xs => cw x + 2 + cws xs
end
mutual
/-- it may be shown: ints of few bits, texts of plain signs, no dict -/
def shw : PyData → Bool
  | .none => true
  | .bool _ => true
  | .int i => decide (i.natAbs.log2 < 1920)
  | .str x => x.cps.toList.all fun c => decide (c < 16 ^ 8)
  | .list xs => shws xs
  | .tuple xs => shws xs
  | .dict _ => false
def shws : List PyData → Bool
  | [] => true
  | x :: xs => shw x && shws xs
end
theorem list_text (ts : List Str) : (listText ts).length ≤ piled ts + 2 := by
  unfold listText
  rw [strLen_append]
  have e1 : (("[" : Str)).length = 1 := by decide +kernel
  have e2 : (("]" : Str)).length = 1 := by decide +kernel
  cases ts with
  | nil =>
    show (("[" : Str)).length + (("]" : Str)).length ≤ _
    omega
  | cons t r =>
    have q := textFrom_length_pos r 1 (("[" : Str) ++ (if 0 > 0 then ", " else "" : String) ++ t) (by decide)
    have e3 : ((if 0 > 0 then ", " else "" : String) : Str).length = 0 := by decide +kernel
    have q2 : (textFrom 0 "[" (t :: r)).length = (("[" : Str) ++ (if 0 > 0 then ", " else "" : String) ++ t).length + piled r := q
    rw [q2, strLen_append, strLen_append, piled_cons]
    omega
mutual
theorem shown_len : ∀ d : PyData, shw d = true → d.shown.length ≤ cw d
  | .none, _ => by simp only [PyData.shown, cw]; decide +kernel
  | .bool b, _ => by cases b <;> (simp only [PyData.shown, cw]; decide +kernel)
  | .int i, h => by
    simp only [shw, decide_eq_true_eq] at h
    simp only [PyData.shown, cw]
    have q := int_text_length_le (a := i) (k := 1920) (by decide) h
    rw [PySem.ofString_length]
    omega
  | .str x, h => by
    simp only [shw, List.all_eq_true, decide_eq_true_eq] at h
    simp only [PyData.shown, cw]
    have q := StrLaws.reprText_len x h
    omega
  | .list xs, h => by
    simp only [shw] at h
    simp only [PyData.shown, cw]
    exact Nat.le_trans (list_text _) (Nat.add_le_add_right (shown_lens xs h) 2)
  | .tuple xs, h => by
    simp only [shw] at h
    simp only [PyData.shown, cw]
    exact Nat.le_trans (fmt_text _) (Nat.add_le_add_right (shown_lens xs h) 2)
  | .dict _, h => by simp only [shw] at h; cases h
theorem shown_lens : ∀ ds : List PyData, shws ds = true → piled (PyData.shownAll ds) ≤ cws ds
  | [], _ => Nat.zero_le _
  | d :: ds, h => by
    simp only [shws, Bool.and_eq_true] at h
    simp only [PyData.shownAll, cws, piled_cons]
    have q1 := shown_len d h.1
    have q2 := shown_lens ds h.2
    omega
end
mutual
theorem shw_showable : ∀ d : PyData, shw d = true → d.showable = true ∧ d.hasDict = false
  | .none, _ => ⟨rfl, rfl⟩
  | .bool _, _ => ⟨rfl, rfl⟩
  | .int i, h => ⟨by simpa only [shw, PyData.showable] using h, rfl⟩
  | .str x, _ => ⟨rfl, rfl⟩
  | .list xs, h => by
    simp only [shw] at h
    simpa only [PyData.showable, PyData.hasDict] using shws_showable xs h
  | .tuple xs, h => by
    simp only [shw] at h
    simpa only [PyData.showable, PyData.hasDict] using shws_showable xs h
  | .dict _, h => by simp only [shw] at h; cases h
theorem shws_showable : ∀ ds : List PyData, shws ds = true →
    PyData.showableAll ds = true ∧ PyData.hasDictAll ds = false
  | [], _ => ⟨rfl, rfl⟩
  | d :: ds, h => by
    simp only [shws, Bool.and_eq_true] at h
    obtain ⟨a, b⟩ := shw_showable d h.1
    obtain ⟨e, f⟩ := shws_showable ds h.2
    simp only [PyData.showableAll, PyData.hasDictAll, a, b, e, f]
    exact ⟨rfl, rfl⟩
end
/-- repr(x), x data -/
def rRepr (K : PySem.W.Frag) : List V → Hp → VK → Prop := fun xs H Q =>
  ∃ x d, xs = [x] ∧ Dp K H x d ∧ shw d = true ∧ d.depth ≤ 60 ∧ cw d ≤ sizeLine ∧ Q (.str d.shown) H
theorem call_repr {X : Cx} (hg : X.A.guards = some []) (hu : X.A.units + 64 < cLine) :
    CallR X (.builtin "repr") (rRepr X.K) := by
  intro pins s σ H vs us Q I rv h
  obtain ⟨x, d, rfl, hd, hs, hdp, hz, q⟩ := h
  obtain ⟨hs1, hs2⟩ := shw_showable d hs
  have hz2 := Nat.le_trans (shown_len d hs) hz
  cases rv with
  | cons r rn =>
    cases rn
    obtain ⟨as, hr⟩ := Dp.reads I d _ _ hd r
    cases hr with
    | none => exact PySem.P.repr_of_none ⟨.str _, H, I.tok _, ⟨_, rfl⟩, q⟩
    | bool b => exact PySem.P.repr_of_bool ⟨.str _, H, I.tok _, ⟨_, rfl⟩, q⟩
    | int i t =>
      refine PySem.P.repr_of_int ?_ ⟨.str _, H, I.tok _, ⟨_, rfl⟩, q⟩
      first | exact hs | simpa only [shw, decide_eq_true_eq] using hs
    | str y t => exact PySem.P.repr_of_str ⟨.str _, H, I.tok _, ⟨_, rfl⟩, q⟩ hz2
    | list h1 h2 h3 h4 =>
      refine repr_of_reads' (Reads.list h1 h2 h3 h4) hs1 (fun y => by rw [hs2] at y; cases y) hg
        (by omega) (fun _ _ e => e) (fun h' u tk hk => ?_) hz2
      exact ⟨.str _, H, I.kept hk, ⟨_, rfl⟩, q⟩
    | tuple h1 h2 h3 h4 =>
      refine repr_of_reads' (Reads.tuple h1 h2 h3 h4) hs1 (fun y => by rw [hs2] at y; cases y) hg
        (by omega) (fun _ _ e => e) (fun h' u tk hk => ?_) hz2
      exact ⟨.str _, H, I.kept hk, ⟨_, rfl⟩, q⟩
    | dict h1 h2 h3 h4 h5 => simp only [PyData.hasDict] at hs2; cases hs2
end G
namespace G
open PySem PySem.Spec PyProof.Rows L2

/-! ### heaps: what is kept -/
/-- x is not yet tracked -/
structure Fr (H : Hp) (x : Addr) : Prop where
  e : H x = none
theorem fr_ne {H : Hp} {a b : Addr} {o : HO} (h : H a = some o) (f : Fr H b) : a ≠ b := ne_of_none h f.e
/-- what nothing changes -/
def Fix : HO → Prop
  | .tup _ => True
  | .frz _ _ => True
  | _ => False
/-- all that H tracks is as it was, but perhaps what stands at ws -/
structure Kp (ws : List Addr) (H H' : Hp) : Prop where
  at_ : ∀ a u, H a = some u → a ∉ ws → H' a = some u
  fix : ∀ a u, H a = some u → Fix u → H' a = some u
  dom : ∀ a u, H a = some u → ∃ v, H' a = some v
section
variable {ws us : List Addr} {H H1 H2 : Hp} {p : Addr} {o u : HO}
theorem Kp.refl : Kp ws H H := ⟨fun _ _ h _ => h, fun _ _ h _ => h, fun _ u h => ⟨u, h⟩⟩
theorem Kp.trans (a : Kp ws H H1) (b : Kp ws H1 H2) : Kp ws H H2 :=
  ⟨fun c u h n => b.at_ c u (a.at_ c u h n) n, fun c u h f => b.fix c u (a.fix c u h f) f,
    fun c u h => let ⟨v, e⟩ := a.dom c u h; b.dom c v e⟩
theorem Kp.mono (a : Kp ws H H1) (h : ∀ b ∈ ws, b ∈ us) : Kp us H H1 :=
  ⟨fun c u e n => a.at_ c u e fun q => n (h c q), a.fix, a.dom⟩
theorem Kp.wide (a : Kp [] H H1) : Kp ws H H1 := a.mono fun b h => (nomatch h)
theorem Kp.free (a : Kp ws H H1) (f : Fr H1 p) : Fr H p := by
  have h := f.e
  constructor
  cases q : H p with
  | none => rfl
  | some u =>
    obtain ⟨v, e⟩ := a.dom p u q
    rw [h] at e
    cases e
theorem Kp.new (f : Fr H p) : Kp ws H (upd H p o) := by
  have h := f.e
  have k : ∀ a u, H a = some u → upd H p o a = some u := fun a u e => by
    rw [upd_ne (ne_of_none e h)]
    exact e
  exact ⟨fun a u e _ => k a u e, fun a u e _ => k a u e, fun a u e => ⟨u, k a u e⟩⟩
/-- what H does not know may be written -/
theorem Kp.upd (a : Kp ws H H1) (f : Fr H p) : Kp ws H (upd H1 p o) := by
  have h := f.e
  have k : ∀ b u, H b = some u → L2.upd H1 p o b = H1 b := fun b u e => upd_ne (ne_of_none e h)
  exact ⟨fun b u e n => (k b u e).trans (a.at_ b u e n), fun b u e f => (k b u e).trans (a.fix b u e f),
    fun b u e => let ⟨v, q⟩ := a.dom b u e; ⟨v, (k b u e).trans q⟩⟩
theorem Kp.mut (h : H p = some u) (nf : ¬ Fix u) (hp : p ∈ ws) : Kp ws H (L2.upd H p o) := by
  refine ⟨fun a v e n => ?_, fun a v e f => ?_, fun a v e => ?_⟩
  · rw [upd_ne (fun (q : a = p) => n (by rw [q]; exact hp))]
    exact e
  · have q : a ≠ p := by
      intro q
      subst q
      rw [h] at e
      cases e
      exact nf f
    rw [upd_ne q]
    exact e
  · by_cases q : a = p
    · exact ⟨o, by rw [q, upd_same]⟩
    · exact ⟨v, by rw [upd_ne q]; exact e⟩
theorem Kp.upm {ys : List V} (a : Kp ws H H1) (h : H1 p = some (.lst ys)) (hp : p ∈ ws) :
    Kp ws H (L2.upd H1 p o) := a.trans (Kp.mut h (fun z => z) hp)
/-- what H does not know need not be named -/
theorem Kp.drop (a : Kp (p :: ws) H H1) (f : Fr H p) : Kp ws H H1 :=
  have h := f.e
  ⟨fun b u e n => a.at_ b u e (fun q => (List.mem_cons.mp q).elim (fun z => by
    rw [z, h] at e
    cases e) n), a.fix, a.dom⟩
theorem Kp.dropAll (a : Kp us H H1) (h : ∀ b ∈ us, b ∈ ws ∨ Fr H b) : Kp ws H H1 :=
  ⟨fun b u e n => a.at_ b u e (fun q => (h b q).elim n (fun z => by
    rw [z.e] at e
    cases e)), a.fix, a.dom⟩
theorem Kp.seqL {K : PySem.W.Frag} {l : Addr} {xs : List V} (a : Kp ws H H1) (n : l ∉ ws)
    (h : SqL K H l xs) : SqL K H1 l xs := by
  rcases h with (h | ⟨o, h⟩) | h
  · exact .inl (.inl (a.at_ _ _ h n))
  · exact .inl (.inr ⟨o, a.fix _ _ h trivial⟩)
  · exact .inr h
theorem Kp.seqT {K : PySem.W.Frag} {l : Addr} {xs : List V} (a : Kp ws H H1)
    (h : SqT K H l xs) : SqT K H1 l xs := by
  rcases h with (h | ⟨o, h⟩) | h
  · exact .inl (.inl (a.fix _ _ h trivial))
  · exact .inl (.inr ⟨o, a.fix _ _ h trivial⟩)
  · exact .inr h
end
mutual
/-- data that nothing changes: no list, no dict -/
def imm : PyData → Bool
  | .none => true
  | .bool _ => true
  | .int _ => true
  | .str _ => true
  | .tuple xs => imms xs
  | .list _ => false
  | .dict _ => false
def imms : List PyData → Bool
  | [] => true
  | x :: xs => imm x && imms xs
end
section
variable {K : PySem.W.Frag} {ws : List Addr} {H H1 : Hp}
mutual
theorem dp_imm (k : Kp ws H H1) : ∀ (d : PyData) (v : V), imm d = true → Dp K H v d → Dp K H1 v d
  | .none, _, _, h => by cases h; exact .non
  | .bool b, _, _, h => by cases h; exact .bl b
  | .int i, _, _, h => by cases h; exact .int i
  | .str x, _, _, h => by cases h; exact .str x
  | .tuple ds, _, hi, h => by
    cases h with
    | tup hs ha => exact .tup (k.seqT hs) (dpa_imm k ds _ (by simpa only [G.imm] using hi) ha)
  | .list _, _, hi, _ => by simp only [G.imm] at hi; cases hi
  | .dict _, _, hi, _ => by simp only [G.imm] at hi; cases hi
theorem dpa_imm (k : Kp ws H H1) : ∀ (ds : List PyData) (vs : List V), imms ds = true →
    DpAll K H vs ds → DpAll K H1 vs ds
  | [], _, _, h => by cases h; exact .nil
  | d :: ds, _, hi, h => by
    simp only [imms, Bool.and_eq_true] at hi
    cases h with
    | cons h1 h2 => exact .cons (dp_imm k d _ hi.1 h1) (dpa_imm k ds _ hi.2 h2)
end
theorem dpa_len : ∀ {ds : List PyData} {vs : List V}, DpAll K H vs ds → vs.length = ds.length
  | [], _, h => by cases h; rfl
  | _ :: ds, _, h => by
    cases h with
    | cons _ h2 => rw [List.length_cons, List.length_cons, dpa_len h2]
theorem dpa_app : ∀ {ds es : List PyData} {vs ys : List V}, DpAll K H vs ds → DpAll K H ys es →
    DpAll K H (vs ++ ys) (ds ++ es)
  | [], _, _, _, h, g => by cases h; exact g
  | _ :: _, _, _, _, h, g => by
    cases h with
    | cons h1 h2 => exact .cons h1 (dpa_app h2 g)
theorem dpa_get : ∀ {ds : List PyData} {vs : List V} {i : Nat} {d : PyData}, DpAll K H vs ds →
    ds[i]? = some d → ∃ v, vs[i]? = some v ∧ Dp K H v d
  | [], _, _, _, _, e => by simp at e
  | _ :: _, _, 0, _, h, e => by
    cases h with
    | cons h1 h2 =>
      simp at e
      subst e
      exact ⟨_, rfl, h1⟩
  | _ :: _, _, i + 1, _, h, e => by
    cases h with
    | cons h1 h2 =>
      obtain ⟨v, q, r⟩ := dpa_get (i := i) h2 (by simpa using e)
      exact ⟨v, by simpa using q, r⟩
theorem dpa_getV : ∀ {ds : List PyData} {vs : List V} {i : Nat} {v : V}, DpAll K H vs ds →
    vs[i]? = some v → ∃ d, ds[i]? = some d ∧ Dp K H v d
  | [], _, _, _, h, e => by cases h; simp at e
  | _ :: _, _, 0, _, h, e => by
    cases h with
    | cons h1 h2 =>
      simp at e
      subst e
      exact ⟨_, rfl, h1⟩
  | _ :: _, _, i + 1, _, h, e => by
    cases h with
    | cons h1 h2 =>
      obtain ⟨d, q, r⟩ := dpa_getV (i := i) h2 (by simpa using e)
      exact ⟨d, by simpa using q, r⟩
theorem dpa_set : ∀ {ds : List PyData} {vs : List V} {i : Nat} {v : V} {d : PyData},
    DpAll K H vs ds → Dp K H v d → DpAll K H (vs.set i v) (ds.set i d)
  | [], _, _, _, _, h, _ => by cases h; exact .nil
  | _ :: _, _, 0, _, _, h, g => by
    cases h with
    | cons h1 h2 => exact .cons g h2
  | _ :: _, _, i + 1, _, _, h, g => by
    cases h with
    | cons h1 h2 => exact .cons h1 (dpa_set h2 g)
theorem dpa_take : ∀ {ds : List PyData} {vs : List V} (i : Nat),
    DpAll K H vs ds → DpAll K H (vs.take i) (ds.take i)
  | [], _, _, h => by cases h; simp; exact .nil
  | _ :: _, _, 0, h => by simp; exact .nil
  | _ :: _, _, i + 1, h => by
    cases h with
    | cons h1 h2 => exact .cons h1 (dpa_take i h2)
theorem dpa_drop : ∀ {ds : List PyData} {vs : List V} (i : Nat),
    DpAll K H vs ds → DpAll K H (vs.drop i) (ds.drop i)
  | [], _, _, h => by cases h; simp; exact .nil
  | _ :: _, _, 0, h => by simpa using h
  | _ :: _, _, i + 1, h => by
    cases h with
    | cons h1 h2 => exact dpa_drop i h2
theorem dpa_one {v : V} {d : PyData} (h : Dp K H v d) : DpAll K H [v] [d] := .cons h .nil
/-- a tuple of two ints -/
abbrev d2 (p : Int × Int) : PyData := .tuple [.int p.1, .int p.2]
theorem dp_pair {v : V} {p : Int × Int} (h : Dp K H v (d2 p)) :
    ∃ a, v = .ref a ∧ SqT K H a [.int p.1, .int p.2] := by
  cases h with
  | tup hs ha =>
    cases ha with
    | cons h1 h2 =>
      cases h2 with
      | cons h3 h4 =>
        cases h4
        cases h1
        cases h3
        exact ⟨_, rfl, hs⟩
theorem dp_mk2 {a : Addr} {m n : Int} (h : SqT K H a [.int m, .int n]) :
    Dp K H (.ref a) (d2 (m, n)) := .tup h (.cons (.int m) (.cons (.int n) .nil))
theorem imms_d2 : ∀ l : List (Int × Int), imms (l.map d2) = true
  | [] => rfl
  | _ :: l => by
    simp only [List.map_cons, imms, G.imm, imms_d2 l]
    rfl
/-- a list of our own, of data that nothing changes -/
def LD (K : PySem.W.Frag) (H : Hp) (l : Addr) (ds : List PyData) : Prop :=
  ∃ vs, H l = some (.lst vs) ∧ DpAll K H vs ds
theorem LD.dp {l : Addr} {ds : List PyData} (h : LD K H l ds) : Dp K H (.ref l) (.list ds) := by
  obtain ⟨vs, e, q⟩ := h
  exact .lst (SqL.of e) q
theorem LD.kp {l : Addr} {ds : List PyData} (h : LD K H l ds) (k : Kp ws H H1) (hi : imms ds = true)
    (n : l ∉ ws) : LD K H1 l ds := by
  obtain ⟨vs, e, q⟩ := h
  exact ⟨vs, k.at_ _ _ e n, dpa_imm k _ _ hi q⟩
theorem LD.some {l : Addr} {ds : List PyData} (h : LD K H l ds) : H l ≠ none := by
  obtain ⟨vs, e, q⟩ := h
  rw [e]
  exact fun y => nomatch y
end
end G
namespace G
open PySem PySem.Spec PyProof.Rows L2

/-! ### one rule for several kinds of values -/
theorem orR {X : Cx} {f : Value → Value → Sem Value} {r r' : R2} (h : OpR X f r) (h' : OpR X f r') :
    OpR X f (fun x y H Q => r x y H Q ∨ r' x y H Q) := by
  intro pins s σ H x y v u Q I rx ry q
  cases q with
  | inl q => exact h pins s σ H x y v u Q I rx ry q
  | inr q => exact h' pins s σ H x y v u Q I rx ry q
theorem orC {X : Cx} {f : Value} {r r' : List V → Hp → VK → Prop} (h : CallR X f r)
    (h' : CallR X f r') : CallR X f (fun xs H Q => r xs H Q ∨ r' xs H Q) := by
  intro pins s σ H xs us Q I rx q
  cases q with
  | inl q => exact h pins s σ H xs us Q I rx q
  | inr q => exact h' pins s σ H xs us Q I rx q
def uAdd (K : PySem.W.Frag) : R2 := fun x y H Q => rI0 (fun i j => .int (i + j)) x y H Q ∨
  (∃ i j, x = .str i ∧ y = .str j ∧ i.length + j.length ≤ sizeLine ∧ Q (.str (i ++ j)) H) ∨
  rCat x y H Q ∨ rCatT K x y H Q
def uMul : R2 := fun x y H Q => rI CMul (fun i j => .int (i * j)) x y H Q ∨
  rI CMulW (fun i j => .int (i * j)) x y H Q ∨ rRep x y H Q
def uEq (K : PySem.W.Frag) : R2 := fun x y H Q => rEq x y H Q ∨ rEqD K x y H Q
def uNe (K : PySem.W.Frag) : R2 := fun x y H Q => rNe x y H Q ∨ rNeD K x y H Q
def uIx (K : PySem.W.Frag) : R2 := fun x y H Q => rIxL K x y H Q ∨ rIxT K x y H Q ∨ rIxS x y H Q
def uLen (K : PySem.W.Frag) : List V → Hp → VK → Prop := fun xs H Q =>
  (∃ p ys, xs = [.ref p] ∧ (SqL K H p ys ∨ SqT K H p ys) ∧ Q (.int ys.length) H) ∨
  (∃ z, xs = [.str z] ∧ z.length ≤ sizeLine ∧ Q (.int z.length) H)
section
variable {X : Cx}
theorem o_add : OpR X (binaryOp .Add) (uAdd X.K) := orR op_add (orR op_add_str (orR op_cat op_catT))
theorem o_mul : OpR X (binaryOp .Mult) uMul := orR op_mul (orR op_mulW op_rep)
theorem o_eq (hu : X.A.units + 64 < cLine) : OpR X (compareOp .Eq) (uEq X.K) := orR op_eq (op_eqD hu)
theorem o_ne (hu : X.A.units + 64 < cLine) : OpR X (compareOp .NotEq) (uNe X.K) := orR op_ne (op_neD hu)
theorem o_ix : IxR X (uIx X.K) := ix_list.or (ix_tup.or ix_str)
theorem c_len : CallR X (.builtin "len") (uLen X.K) := orC call_len_seq call_len_str
end

/-! ### readings from the front -/
section
variable {K : PySem.W.Frag} {σ : L2.St} {H : Hp} {Q : VK} {D : Ends} {t1 t2 : TS} {te ta tb tc : TE}
variable {i j : Nat} {v x y : V} {c u : TT} {tr : TA} {n m : Int} {b : Bool} {p : Addr}
variable {QB : Bool → Hp → Prop} {QA : List V → Hp → Prop} {xs : List V}
theorem i_seq (h : t1 { D with nx := t2 D } σ H) : tSeq t1 t2 D σ H := h
instance red_i_seq  : Red (tSeq t1 t2 D σ H) (t1 { D with nx := t2 D } σ H) := ⟨i_seq⟩
theorem i_next (h : D.nx σ H) : tNext D σ H := h
instance red_i_next  : Red (tNext D σ H) (D.nx σ H) := ⟨i_next⟩
theorem i_set (h : te σ H fun x H1 => D.nx (σ.set i (some x)) H1) : tAsg te (gName i) D σ H := h
instance red_i_set  : Red (tAsg te (gName i) D σ H) (te σ H fun x H1 => D.nx (σ.set i (some x)) H1) := ⟨i_set⟩
theorem i_asg {g : TG} (h : te σ H fun x H1 => g x σ H1 D.nx) : tAsg te g D σ H := h
instance (priority := 900) red_i_asg {g : TG} : Red (tAsg te g D σ H) (te σ H fun x H1 => g x σ H1 D.nx) := ⟨i_asg⟩
theorem i_drop (h : te σ H fun _ H1 => D.nx σ H1) : tDrop te D σ H := h
instance red_i_drop  : Red (tDrop te D σ H) (te σ H fun _ H1 => D.nx σ H1) := ⟨i_drop⟩
theorem i_ret (h : te σ H D.rt) : tRet te D σ H := h
instance red_i_ret  : Red (tRet te D σ H) (te σ H D.rt) := ⟨i_ret⟩
theorem i_retN (h : D.rt .non H) : tRetN D σ H := h
instance red_i_retN  : Red (tRetN D σ H) (D.rt .non H) := ⟨i_retN⟩
theorem i_brk (h : D.bk σ H) : tBreak D σ H := h
instance red_i_brk  : Red (tBreak D σ H) (D.bk σ H) := ⟨i_brk⟩
theorem i_cont (h : D.ct σ H) : tCont D σ H := h
instance red_i_cont  : Red (tCont D σ H) (D.ct σ H) := ⟨i_cont⟩
theorem i_ifS (h : c σ H fun b H1 => if b = true then t1 D σ H1 else t2 D σ H1) : tIfS c t1 t2 D σ H := h
instance red_i_ifS  : Red (tIfS c t1 t2 D σ H) (c σ H fun b H1 => if b = true then t1 D σ H1 else t2 D σ H1) := ⟨i_ifS⟩
theorem i_aug {ti : TIp} (e : σ[i]? = some (some x))
    (h : te σ H fun y H1 => ti x y H1 fun z H2 => D.nx (σ.set i (some z)) H2) : tAug i te ti D σ H := ⟨x, e, h⟩
theorem i_ipI {f : Int → Int → Int} (h : Q (.int (f n m)) H) : ipI f (.int n) (.int m) H Q := ⟨n, m, rfl, rfl, h⟩
instance red_i_ipI {f : Int → Int → Int} : Red (ipI f (.int n) (.int m) H Q) (Q (.int (f n m)) H) := ⟨i_ipI⟩
theorem i_par {i j : Nat} {tt : TA}
    (h : tt σ H fun vs H1 => ∃ v w, vs = [v, w] ∧ D.nx ((σ.set i (some v)).set j (some w)) H1) :
    tPar i j tt D σ H := h
instance red_i_par {i j : Nat} {tt : TA} : Red (tPar i j tt D σ H) (tt σ H fun vs H1 => ∃ v w, vs = [v, w] ∧ D.nx ((σ.set i (some v)).set j (some w)) H1) := ⟨i_par⟩
theorem i_two {P : V → V → Prop} (h : P x y) : ∃ v w, [x, y] = [v, w] ∧ P v w := ⟨x, y, rfl, h⟩

instance red_i_two {P : V → V → Prop} : Red (∃ v w, [x, y] = [v, w] ∧ P v w) (P x y) := ⟨i_two⟩
theorem i_var (e : σ[i]? = some (some v)) (h : Q v H) : tVar i σ H Q := ⟨v, e, h⟩
theorem i_c (h : Q v H) : tC v σ H Q := h
instance red_i_c  : Red (tC v σ H Q) (Q v H) := ⟨i_c⟩
theorem i_op {r : R2} (h : ta σ H fun x H1 => tb σ H1 fun y H2 => r x y H2 Q) : tOp r ta tb σ H Q := h
instance red_i_op {r : R2} : Red (tOp r ta tb σ H Q) (ta σ H fun x H1 => tb σ H1 fun y H2 => r x y H2 Q) := ⟨i_op⟩
theorem i_un {r : V → Hp → VK → Prop} (h : ta σ H fun x H1 => r x H1 Q) : tUn r ta σ H Q := h
instance red_i_un {r : V → Hp → VK → Prop} : Red (tUn r ta σ H Q) (ta σ H fun x H1 => r x H1 Q) := ⟨i_un⟩
theorem i_I0 {g : Int → Int → V} (h : Q (g n m) H) : rI0 g (.int n) (.int m) H Q := ⟨n, m, rfl, rfl, h⟩
instance red_i_I0 {g : Int → Int → V} : Red (rI0 g (.int n) (.int m) H Q) (Q (g n m) H) := ⟨i_I0⟩
theorem i_I {g : Int → Int → V} {C : Int → Int → Prop} (hc : C n m) (h : Q (g n m) H) :
    rI C g (.int n) (.int m) H Q := ⟨n, m, rfl, rfl, hc, h⟩
theorem i_U {g : Int → V} (h : Q (g n) H) : rU g (.int n) H Q := ⟨n, rfl, h⟩
instance red_i_U {g : Int → V} : Red (rU g (.int n) H Q) (Q (g n) H) := ⟨i_U⟩
theorem i_addI (h : Q (.int (n + m)) H) : uAdd K (.int n) (.int m) H Q := .inl ⟨n, m, rfl, rfl, h⟩
instance red_i_addI  : Red (uAdd K (.int n) (.int m) H Q) (Q (.int (n + m)) H) := ⟨i_addI⟩
theorem i_addS {z w : Str} (hz : z.length + w.length ≤ sizeLine) (h : Q (.str (z ++ w)) H) :
    uAdd K (.str z) (.str w) H Q := .inr (.inl ⟨z, w, rfl, rfl, hz, h⟩)
theorem i_mulI (hc : CMul n m) (h : Q (.int (n * m)) H) : uMul (.int n) (.int m) H Q :=
  .inl ⟨n, m, rfl, rfl, hc, h⟩
theorem i_mulW (hc : CMulW n m) (h : Q (.int (n * m)) H) : uMul (.int n) (.int m) H Q :=
  .inr (.inl ⟨n, m, rfl, rfl, hc, h⟩)
theorem i_eqI (h : Q (.bl (decide (n = m))) H) : uEq K (.int n) (.int m) H Q := by
  refine .inl ⟨rfl, ?_⟩
  have e : decide (V.int n = V.int m) = decide (n = m) := by
    rw [Bool.eq_iff_iff]
    simp
  rw [e]
  exact h
instance red_i_eqI  : Red (uEq K (.int n) (.int m) H Q) (Q (.bl (decide (n = m))) H) := ⟨i_eqI⟩
theorem i_neI (h : Q (.bl (!decide (n = m))) H) : uNe K (.int n) (.int m) H Q := by
  refine .inl ⟨rfl, ?_⟩
  have e : decide (V.int n = V.int m) = decide (n = m) := by
    rw [Bool.eq_iff_iff]
    simp
  rw [e]
  exact h
instance red_i_neI  : Red (uNe K (.int n) (.int m) H Q) (Q (.bl (!decide (n = m))) H) := ⟨i_neI⟩
theorem i_eqS {z w : Str} (h : Q (.bl (decide (z = w))) H) : uEq K (.str z) (.str w) H Q := by
  refine .inl ⟨rfl, ?_⟩
  have e : decide (V.str z = V.str w) = decide (z = w) := by
    rw [Bool.eq_iff_iff]
    simp
  rw [e]
  exact h
instance red_i_eqS {z w : Str} : Red (uEq K (.str z) (.str w) H Q) (Q (.bl (decide (z = w))) H) := ⟨i_eqS⟩
theorem i_neS {z w : Str} (h : Q (.bl (!decide (z = w))) H) : uNe K (.str z) (.str w) H Q := by
  refine .inl ⟨rfl, ?_⟩
  have e : decide (V.str z = V.str w) = decide (z = w) := by
    rw [Bool.eq_iff_iff]
    simp
  rw [e]
  exact h
instance red_i_neS {z w : Str} : Red (uNe K (.str z) (.str w) H Q) (Q (.bl (!decide (z = w))) H) := ⟨i_neS⟩
theorem i_eqD {d e : PyData} (hd : Dp K H x d) (he : Dp K H y e) (sd : SeqAt.shaped d = true)
    (se : SeqAt.shaped e = true) (h : Q (.bl (PyData.eqv d e)) H) : uEq K x y H Q :=
  .inr ⟨d, e, hd, he, sd, se, h⟩
theorem i_neD {d e : PyData} (hd : Dp K H x d) (he : Dp K H y e) (sd : SeqAt.shaped d = true)
    (se : SeqAt.shaped e = true) (h : Q (.bl (!PyData.eqv d e)) H) : uNe K x y H Q :=
  .inr ⟨d, e, hd, he, sd, se, h⟩
theorem i_ixL (hs : SqL K H p xs) (ha : atI xs n = some v) (h : Q v H) :
    uIx K (.ref p) (.int n) H Q := .inl ⟨p, xs, n, v, rfl, rfl, hs, ha, h⟩
theorem i_ixT (hs : SqT K H p xs) (ha : atI xs n = some v) (h : Q v H) :
    uIx K (.ref p) (.int n) H Q := .inr (.inl ⟨p, xs, n, v, rfl, rfl, hs, ha, h⟩)
theorem i_lenL (hs : SqL K H p xs) (h : Q (.int xs.length) H) : uLen K [.ref p] H Q :=
  .inl ⟨p, xs, rfl, .inl hs, h⟩
theorem i_lenT (hs : SqT K H p xs) (h : Q (.int xs.length) H) : uLen K [.ref p] H Q :=
  .inl ⟨p, xs, rfl, .inr hs, h⟩
theorem i_lenS {z : Str} (hz : z.length ≤ sizeLine) (h : Q (.int z.length) H) : uLen K [.str z] H Q :=
  .inr ⟨z, rfl, hz, h⟩

theorem i_test (h : te σ H fun x H1 => ∃ k, x = .bl k ∧ QB k H1) : tTest te σ H QB := h
instance red_i_test  : Red (tTest te σ H QB) (te σ H fun x H1 => ∃ k, x = .bl k ∧ QB k H1) := ⟨i_test⟩
theorem i_B (h : te σ H fun x H1 => ∃ k, x = .bl k ∧ QB k H1) : tB te σ H QB := h
instance red_i_B  : Red (tB te σ H QB) (te σ H fun x H1 => ∃ k, x = .bl k ∧ QB k H1) := ⟨i_B⟩
theorem i_bl {P : Bool → Prop} (h : P b) : ∃ k, V.bl b = .bl k ∧ P k := ⟨b, rfl, h⟩
instance red_i_bl {P : Bool → Prop} : Red (∃ k, V.bl b = .bl k ∧ P k) (P b) := ⟨i_bl⟩
theorem i_and (h : c σ H fun b H1 => if b = true then u σ H1 QB else QB false H1) : tAnd c u σ H QB := h
instance red_i_and  : Red (tAnd c u σ H QB) (c σ H fun b H1 => if b = true then u σ H1 QB else QB false H1) := ⟨i_and⟩
theorem i_or (h : c σ H fun b H1 => if b = true then QB true H1 else u σ H1 QB) : tOr c u σ H QB := h
instance red_i_or  : Red (tOr c u σ H QB) (c σ H fun b H1 => if b = true then QB true H1 else u σ H1 QB) := ⟨i_or⟩
theorem i_not (h : c σ H fun b H1 => QB (!b) H1) : tNot c σ H QB := h
instance red_i_not  : Red (tNot c σ H QB) (c σ H fun b H1 => QB (!b) H1) := ⟨i_not⟩
theorem i_andV (h : ta σ H fun x H1 => ∃ k, x = .bl k ∧ if k = true then tb σ H1 Q else Q (.bl false) H1) :
    tAndV ta tb σ H Q := h
instance red_i_andV  : Red (tAndV ta tb σ H Q) (ta σ H fun x H1 => ∃ k, x = .bl k ∧ if k = true then tb σ H1 Q else Q (.bl false) H1) := ⟨i_andV⟩
theorem i_orV (h : ta σ H fun x H1 => ∃ k, x = .bl k ∧ if k = true then Q (.bl true) H1 else tb σ H1 Q) :
    tOrV ta tb σ H Q := h
instance red_i_orV  : Red (tOrV ta tb σ H Q) (ta σ H fun x H1 => ∃ k, x = .bl k ∧ if k = true then Q (.bl true) H1 else tb σ H1 Q) := ⟨i_orV⟩
theorem i_notV (h : ta σ H fun x H1 => ∃ k, x = .bl k ∧ Q (.bl (!k)) H1) : tNotV ta σ H Q := h
instance red_i_notV  : Red (tNotV ta σ H Q) (ta σ H fun x H1 => ∃ k, x = .bl k ∧ Q (.bl (!k)) H1) := ⟨i_notV⟩
theorem i_ifE (h : c σ H fun b H1 => if b = true then ta σ H1 Q else tb σ H1 Q) : tIf c ta tb σ H Q := h
instance red_i_ifE  : Red (tIf c ta tb σ H Q) (c σ H fun b H1 => if b = true then ta σ H1 Q else tb σ H1 Q) := ⟨i_ifE⟩
theorem i_chain {r r' : R2} (h : ta σ H fun x H1 => tb σ H1 fun y H2 => r x y H2 fun z H3 =>
    ∃ k, z = .bl k ∧ if k = true then tc σ H3 fun w H4 => r' y w H4 Q else Q (.bl false) H3) :
    tChain r r' ta tb tc σ H Q := h
instance red_i_chain {r r' : R2} : Red (tChain r r' ta tb tc σ H Q) (ta σ H fun x H1 => tb σ H1 fun y H2 => r x y H2 fun z H3 =>
    ∃ k, z = .bl k ∧ if k = true then tc σ H3 fun w H4 => r' y w H4 Q else Q (.bl false) H3) := ⟨i_chain⟩
theorem i_nil (h : QA [] H) : tNil σ H QA := h
instance red_i_nil  : Red (tNil σ H QA) (QA [] H) := ⟨i_nil⟩
theorem i_cons (h : te σ H fun x H1 => tr σ H1 fun xs H2 => QA (x :: xs) H2) : tCons te tr σ H QA := h
instance red_i_cons  : Red (tCons te tr σ H QA) (te σ H fun x H1 => tr σ H1 fun xs H2 => QA (x :: xs) H2) := ⟨i_cons⟩
/-- for any new place -/
def New (H : Hp) (P : Addr → Prop) : Prop := ∀ p, H p = none → P p
theorem i_new {P : Addr → Prop} (h : ∀ p, Fr H p → P p) : New H P := fun p e => h p ⟨e⟩
theorem i_tup (h : tr σ H fun xs H1 => xs.length ≤ sizeLine ∧ New H1 fun p => Q (.ref p) (upd H1 p (.tup xs))) :
    tTup tr σ H Q := h
instance red_i_tup  : Red (tTup tr σ H Q) (tr σ H fun xs H1 => xs.length ≤ sizeLine ∧ New H1 fun p => Q (.ref p) (upd H1 p (.tup xs))) := ⟨i_tup⟩
theorem i_lst (h : tr σ H fun xs H1 => xs.length ≤ sizeLine ∧ New H1 fun p => Q (.ref p) (upd H1 p (.lst xs))) :
    tLst tr σ H Q := h
instance red_i_lst  : Red (tLst tr σ H Q) (tr σ H fun xs H1 => xs.length ≤ sizeLine ∧ New H1 fun p => Q (.ref p) (upd H1 p (.lst xs))) := ⟨i_lst⟩
theorem i_few {P : Prop} {n : Nat} (hn : n ≤ 1000) (h : P) : n ≤ sizeLine ∧ P :=
  ⟨Nat.le_trans hn (by decide), h⟩
theorem i_CB {r : List V → Hp → VK → Prop} (h : tr σ H fun vs H1 => r vs H1 Q) : tCB r tr σ H Q := h
instance red_i_CB {r : List V → Hp → VK → Prop} : Red (tCB r tr σ H Q) (tr σ H fun vs H1 => r vs H1 Q) := ⟨i_CB⟩
theorem i_call {sp : Sp} {dvs : List V} {E : XK} (h : tr σ H fun vs H1 => sp (vs ++ dvs) H1 Q E) :
    tCall sp dvs E tr σ H Q := h
instance (priority := 900) red_i_call {sp : Sp} {dvs : List V} {E : XK} : Red (tCall sp dvs E tr σ H Q) (tr σ H fun vs H1 => sp (vs ++ dvs) H1 Q E) := ⟨i_call⟩
theorem i_BM {T : String} {r : V → List V → Hp → VK → Prop}
    (h : te σ H fun x H1 => tyV K T x H1 ∧ tr σ H1 fun xs H2 => r x xs H2 Q) : tBM K T r te tr σ H Q := h
instance red_i_BM {T : String} {r : V → List V → Hp → VK → Prop} : Red (tBM K T r te tr σ H Q) (te σ H fun x H1 => tyV K T x H1 ∧ tr σ H1 fun xs H2 => r x xs H2 Q) := ⟨i_BM⟩
theorem i_BM0 {T : String} {r : V → List V → Hp → VK → Prop}
    (h : te σ H fun x H1 => tyV K T x H1 ∧ r x [] H1 Q) : tBM0 K T r te σ H Q := h
instance red_i_BM0 {T : String} {r : V → List V → Hp → VK → Prop} : Red (tBM0 K T r te σ H Q) (te σ H fun x H1 => tyV K T x H1 ∧ r x [] H1 Q) := ⟨i_BM0⟩
theorem i_tyL {P : Prop} (hs : SqL K H p xs) (h : P) : tyV K "list" (.ref p) H ∧ P :=
  ⟨.inl ⟨rfl, xs, hs⟩, h⟩
theorem i_app (hs : H p = some (.lst xs)) (hz : xs.length < sizeLine)
    (h : Q .non (upd H p (.lst (xs ++ [y])))) : rAppend (.ref p) [y] H Q := ⟨p, xs, y, rfl, rfl, hs, hz, h⟩
theorem i_repr {d : PyData} (hd : Dp K H x d) (hs : shw d = true) (hdp : d.depth ≤ 60)
    (hz : cw d ≤ sizeLine) (h : Q (.str d.shown) H) : rRepr K [x] H Q := ⟨x, d, rfl, hd, hs, hdp, hz, h⟩
theorem i_setL {S : Hp → Prop} {k : Nat} (hs : H p = some (.lst xs)) (hj : ixN xs.length n = some k)
    (h : S (upd H p (.lst (xs.set k v)))) : rSetL (.ref p) (.int n) v H S := ⟨p, xs, n, k, rfl, rfl, hs, hj, h⟩
theorem i_iList {R : It → Hp → Prop} (h : te σ H fun x H1 => ∃ a, x = .ref a ∧ (∃ xs, SqL K H1 a xs) ∧ R (Itl K a) H1) :
    iList K te σ H R := h
theorem i_For {wi : TI} {g : TG} (h : wi σ H fun J H1 => ∃ W : Nat → Nat → L2.St → Hp → Prop, (∃ m, W 0 m σ H1) ∧ ∀ i m σ H, W i m σ H →
    (J.stop i H ∧ D.nx σ H) ∨ (J.go i H ∧ ∃ Nx : L2.St → Hp → Prop, (∀ σ' H', Nx σ' H' → ∃ m', m' < m ∧ W (i + 1) m' σ' H') ∧
      ∀ x H', J.yld i H x H' → g x σ H' fun σ2 H2 => t1 { D with nx := Nx, ct := Nx, bk := D.nx } σ2 H2)) :
    tFor wi g t1 D σ H := h
theorem i_iteT {A B : Prop} (h : A) : if true = true then A else B := iteT h
instance red_i_iteT {A B : Prop} : Red (if true = true then A else B) (A) := ⟨i_iteT⟩
theorem i_iteF {A B : Prop} (h : B) : if false = true then A else B := iteF h
instance red_i_iteF {A B : Prop} : Red (if false = true then A else B) (B) := ⟨i_iteF⟩
theorem i_ntT {A B : Prop} (h : B) : if (!true) = true then A else B := iteF h
instance red_i_ntT {A B : Prop} : Red (if (!true) = true then A else B) (B) := ⟨i_ntT⟩
theorem i_ntF {A B : Prop} (h : A) : if (!false) = true then A else B := iteT h
instance red_i_ntF {A B : Prop} : Red (if (!false) = true then A else B) (A) := ⟨i_ntF⟩
theorem i_dec {p A B : Prop} [Decidable p] (h1 : p → A) (h2 : ¬ p → B) :
    if decide p = true then A else B := by
  by_cases h : p
  · rw [decide_eq_true h]
    exact iteT (h1 h)
  · rw [decide_eq_false h]
    exact iteF (h2 h)
theorem i_decN {p A B : Prop} [Decidable p] (h1 : ¬ p → A) (h2 : p → B) :
    if (!decide p) = true then A else B := by
  by_cases h : p
  · rw [decide_eq_true h]
    exact iteF (h2 h)
  · rw [decide_eq_false h]
    exact iteT (h1 h)
theorem i_boo {b : Bool} {A B : Prop} (h1 : b = true → A) (h2 : b = false → B) :
    if b = true then A else B := by
  cases b
  · exact iteF (h2 rfl)
  · exact iteT (h1 rfl)
end
section
variable {P : Program} {w : World} {K : PySem.W.Frag} {mg : Str → Option Value} {base : Heap}
/-- a def of the text, by its body -/
theorem okG {x qual : Str} {st : Stmt} {f : Addr} {fd : FuncData} {N ps : List Str} {k : Nat} {sp : Sp}
    (F : L2.Fun K x qual st f fd) (S : FnScope N ps (defScope st))
    (len : ∀ vs H Q E, sp vs H Q E → vs.length = ps.length)
    (hb : ∀ (cdv : Value) (A : Around) (outer : List Env) (s : Shared) (H : Hp) (vs : List V)
      (Q : VK) (E : XK), RoomG k (A.deeper (envOfC qual (defScope st) s.heap.objs.size f cdv)) →
      sp vs H Q E →
      ∃ t, PSs (cxOf (L2.CX P w) P w K mg base N qual (defScope st) f cdv A outer s H E) (defBody st) t ∧
        t { nx := fun _ H' => Q .non H', rt := Q } (start N vs) H) :
    FnG P w K mg base (k + 1) f fd ps sp := by
  obtain ⟨oc, od, kV, doc, pm, an, cdv, ct, osl, rfl, lk, hcd⟩ := F.ex
  exact FnG.body lk hcd S len fun A outer s H vs Q E z h => hb cdv A outer s H vs Q E z h
end
end G
namespace G
open PySem PySem.Spec PyProof.Rows L2
section
variable {K : PySem.W.Frag} {σ : L2.St} {H : Hp} {Q : VK} {D : Ends} {tb : TS} {te : TE} {g : TG}
variable {a p q l : Addr} {xs vs : List V} {v x y : V} {ds : List PyData} {S : L2.St → Hp → Prop}
theorem st_1 {N : List Str} {a : V} : L2.start N [a] = some a :: List.replicate (N.length - 1) none := rfl
theorem st_2 {N : List Str} {a b : V} : L2.start N [a, b] = some a :: some b :: List.replicate (N.length - 2) none := rfl
theorem st_3 {N : List Str} {a b c : V} :
    L2.start N [a, b, c] = some a :: some b :: some c :: List.replicate (N.length - 3) none := rfl
theorem st_4 {N : List Str} {a b c d : V} : L2.start N [a, b, c, d] =
    some a :: some b :: some c :: some d :: List.replicate (N.length - 4) none := rfl
theorem st_5 {N : List Str} {a b c d e : V} : L2.start N [a, b, c, d, e] =
    some a :: some b :: some c :: some d :: some e :: List.replicate (N.length - 5) none := rfl
theorem st_6 {N : List Str} {a b c d e f : V} : L2.start N [a, b, c, d, e, f] =
    some a :: some b :: some c :: some d :: some e :: some f :: List.replicate (N.length - 6) none := rfl
theorem i_gTup {n : Nat} {t : TGs} (hs : SqT K H p xs) (hl : xs.length = n) (h : t xs σ H S) :
    gTup K n t (.ref p) σ H S := ⟨p, xs, rfl, hs, hl, h⟩
theorem i_gCons {t : TG} {u : TGs} (h : t v σ H fun σ' H' => u xs σ' H' S) :
    gCons t u (v :: xs) σ H S := ⟨v, xs, rfl, h⟩
instance red_i_gCons {t : TG} {u : TGs} : Red (gCons t u (v :: xs) σ H S) (t v σ H fun σ' H' => u xs σ' H' S) := ⟨i_gCons⟩
theorem i_gNil (h : S σ H) : gNil [] σ H S := ⟨rfl, h⟩
instance red_i_gNil  : Red (gNil [] σ H S) (S σ H) := ⟨i_gNil⟩
theorem i_gName {i : Nat} (h : S (σ.set i (some v)) H) : gName i v σ H S := h
instance red_i_gName {i : Nat} : Red (gName i v σ H S) (S (σ.set i (some v)) H) := ⟨i_gName⟩
theorem i_gSub {to ti : TE} {t : TSet} (h : to σ H fun o H1 => ti σ H1 fun i H2 => t o i v H2 fun H3 => S σ H3) :
    gSub to ti t v σ H S := h
instance red_i_gSub {to ti : TE} {t : TSet} : Red (gSub to ti t v σ H S) (to σ H fun o H1 => ti σ H1 fun i H2 => t o i v H2 fun H3 => S σ H3) := ⟨i_gSub⟩
/-- a for over x, a list -/
def ForL (K : PySem.W.Frag) (x : V) (g : TG) (tb : TS) (D : Ends) (σ : L2.St) (H : Hp) : Prop :=
  ∃ a, x = .ref a ∧ (∃ ys, SqL K H a ys) ∧ ∃ W : Nat → Nat → L2.St → Hp → Prop,
    (∃ m, W 0 m σ H) ∧ ∀ i m σ H, W i m σ H → ((Itl K a).stop i H ∧ D.nx σ H) ∨
      ((Itl K a).go i H ∧ ∃ Nx : L2.St → Hp → Prop,
        (∀ σ' H', Nx σ' H' → ∃ m', m' < m ∧ W (i + 1) m' σ' H') ∧
        ∀ x H', (Itl K a).yld i H x H' → g x σ H' fun σ2 H2 =>
          tb { D with nx := Nx, ct := Nx, bk := D.nx } σ2 H2)
theorem i_forL (h : te σ H fun x H1 => ForL K x g tb D σ H1) : tFor (iList K te) g tb D σ H := h
instance red_i_forL  : Red (tFor (iList K te) g tb D σ H) (te σ H fun x H1 => ForL K x g tb D σ H1) := ⟨i_forL⟩
theorem i_each (hs : SqL K H a xs) (Pv : Nat → L2.St → Hp → Prop) (h0 : Pv 0 σ H)
    (hl : ∀ i σ H, i ≤ xs.length → Pv i σ H → SqL K H a xs)
    (st : ∀ i x σ H, xs[i]? = some x → Pv i σ H → g x σ H fun σ2 H2 =>
      tb { D with nx := Pv (i + 1), ct := Pv (i + 1), bk := D.nx } σ2 H2)
    (hd : ∀ σ H, Pv xs.length σ H → D.nx σ H) : ForL K (.ref a) g tb D σ H :=
  ⟨a, rfl, ⟨_, hs⟩, for_list Pv h0 hl st hd⟩
/-- a for over range(n) -/
def ForR (vs : List V) (g : TG) (tb : TS) (D : Ends) (σ : L2.St) (H : Hp) : Prop :=
  ∃ j : Int, vs = [.int j] ∧ -(2 ^ 62) ≤ j ∧ j < 2 ^ 62 ∧
    ∃ W : Nat → Nat → L2.St → Hp → Prop, (∃ m, W 0 m σ H) ∧ ∀ i m σ H, W i m σ H →
      ((Itr 0 j.toNat).stop i H ∧ D.nx σ H) ∨ ((Itr 0 j.toNat).go i H ∧ ∃ Nx : L2.St → Hp → Prop,
        (∀ σ' H', Nx σ' H' → ∃ m', m' < m ∧ W (i + 1) m' σ' H') ∧
        ∀ x H', (Itr 0 j.toNat).yld i H x H' → g x σ H' fun σ2 H2 =>
          tb { D with nx := Nx, ct := Nx, bk := D.nx } σ2 H2)
theorem i_forR {ta : TA} (h : ta σ H fun vs H1 => ForR vs g tb D σ H1) : tFor (iRng1 ta) g tb D σ H := h
instance red_i_forR {ta : TA} : Red (tFor (iRng1 ta) g tb D σ H) (ta σ H fun vs H1 => ForR vs g tb D σ H1) := ⟨i_forR⟩
theorem i_turns {n : Int} (b1 : 0 ≤ n) (b2 : n < 2 ^ 62) (Pv : Nat → L2.St → Hp → Prop) (h0 : Pv 0 σ H)
    (st : ∀ (i : Nat) σ H, (i : Int) < n → Pv i σ H → g (.int i) σ H fun σ2 H2 =>
      tb { D with nx := Pv (i + 1), ct := Pv (i + 1), bk := D.nx } σ2 H2)
    (hd : ∀ σ H, Pv n.toNat σ H → D.nx σ H) : ForR [.int n] g tb D σ H := by
  refine ⟨n, rfl, by omega, b2, for_range Pv h0 (fun i σ H hi q => ?_) hd⟩
  have e : V.int (0 + (i : Int)) = V.int i := by rw [Int.zero_add]
  rw [e]
  exact st i σ H (by omega) q

theorem canLay_pairs : ∀ l : List (Int × Int), PyData.canLayAll0 (l.map d2) = true
  | [] => rfl
  | p :: l => by
    simp only [List.map_cons, PyData.canLayAll0, PyData.canLay0, canLay_pairs l]
    rfl
theorem depth_pairs : ∀ l : List (Int × Int), PyData.depthAll (l.map d2) ≤ 1
  | [] => Nat.zero_le _
  | p :: l => by
    simp only [List.map_cons, PyData.depthAll, PyData.depth]
    have q := depth_pairs l
    omega
theorem shaped_of {d : PyData} (h : d.canLay0 = true) (hd : d.depth ≤ 64) : SeqAt.shaped d = true := by
  unfold SeqAt.shaped
  rw [h, decide_eq_true hd]
  rfl
theorem shaped_pairs (l : List (Int × Int)) : SeqAt.shaped (.list (l.map d2)) = true := by
  refine shaped_of ?_ ?_
  · simp only [PyData.canLay0]
    exact canLay_pairs l
  · simp only [PyData.depth]
    have q := depth_pairs l
    omega
theorem shaped_nil : SeqAt.shaped (.list []) = true := by decide +kernel
theorem eqv_nil (ds : List PyData) : PyData.eqv (.list ds) (.list []) = ds.isEmpty := by
  cases ds <;> simp [PyData.eqv, PyData.eqvAll]
/-- xs == [], xs != [] -/
theorem eq_nil (ld : LD K H l ds) (hi : imms ds = true) (hs : SeqAt.shaped (.list ds) = true)
    (hq : Fr H q) (h : Q (.bl ds.isEmpty) (upd H q (.lst []))) :
    uEq K (.ref l) (.ref q) (upd H q (.lst [])) Q := by
  refine i_eqD (LD.dp (ld.kp (Kp.new hq) hi List.not_mem_nil)) (.lst (SqL.of upd_same) .nil) hs
    shaped_nil ?_
  rw [eqv_nil]
  exact h
theorem ne_nil (ld : LD K H l ds) (hi : imms ds = true) (hs : SeqAt.shaped (.list ds) = true)
    (hq : Fr H q) (h : Q (.bl (!ds.isEmpty)) (upd H q (.lst []))) :
    uNe K (.ref l) (.ref q) (upd H q (.lst [])) Q := by
  refine i_neD (LD.dp (ld.kp (Kp.new hq) hi List.not_mem_nil)) (.lst (SqL.of upd_same) .nil) hs
    shaped_nil ?_
  rw [eqv_nil]
  exact h
theorem dpa_last {d : PyData} : ∀ {ds : List PyData} {vs : List V}, DpAll K H vs (ds ++ [d]) →
    ∃ us x, vs = us ++ [x] ∧ DpAll K H us ds ∧ Dp K H x d
  | [], _, h => by
    cases h with
    | cons h1 h2 =>
      cases h2
      exact ⟨[], _, rfl, .nil, h1⟩
  | _ :: ds, _, h => by
    cases h with
    | cons h1 h2 =>
      obtain ⟨us, x, e, q1, q2⟩ := dpa_last h2
      exact ⟨_ :: us, x, by rw [e]; rfl, .cons h1 q1, q2⟩
theorem list_last {α : Type} {l : List α} (h : l ≠ []) : ∃ f q, l = f ++ [q] :=
  ⟨l.dropLast, l.getLast h, (List.dropLast_concat_getLast h).symm⟩
theorem ix_last (n : Nat) : ixN (n + 1) (-1) = some n := by
  unfold ixN
  rw [if_neg (by decide), if_pos (by omega)]
  congr 1
  omega
theorem set_last {α : Type} (l : List α) (a b : α) : (l ++ [a]).set l.length b = l ++ [b] := by
  rw [List.set_append_right _ _ (Nat.le_refl _)]
  simp
theorem upd_nn {o : HO} {u : Option HO} {b : Addr} (h : b ≠ a) (k : H b = u) : upd H a o b = u :=
  (upd_ne h).trans k
/-- what is not tracked then was not tracked before -/
def Old (H H' : Hp) : Prop := ∀ a, H' a = none → H a = none
theorem Old.refl : Old H H := fun _ h => h
theorem old_upd {H1 : Hp} {o : HO} (h : Old H H1) : Old H (upd H1 p o) := fun x e => by
  refine h x ?_
  by_cases z : x = p
  · rw [z, upd_same] at e
    cases e
  · rw [upd_ne z] at e
    exact e
theorem old_kp {H1 H2 : Hp} {ws : List Addr} (k : Kp ws H1 H2) (h : Old H H1) : Old H H2 :=
  fun x e => h x (k.free ⟨e⟩).e
theorem fr_of {H1 : Hp} {x : Addr} (h : Fr H1 x) (o : Old H H1) : Fr H x := ⟨o x h.e⟩
theorem small_sz {n : Nat} (h : n ≤ 1000000) : n < sizeLine := Nat.lt_of_le_of_lt h (by decide)
theorem sqT_new {o : HO} (h : SqT K H a xs) (hq : Fr H q) : SqT K (upd H q o) a xs :=
  (Kp.new (ws := []) hq).seqT h
theorem sqT_lst {o : HO} {ys : List V} (h : SqT K H a xs) (hq : H q = some (.lst ys)) :
    SqT K (upd H q o) a xs :=
  (Kp.mut (ws := [q]) hq (fun z => z) (List.mem_singleton.mpr rfl)).seqT h
theorem i_boN {b : Bool} {A B : Prop} (h1 : b = false → A) (h2 : b = true → B) :
    if (!b) = true then A else B := by
  cases b
  · exact iteT (h1 rfl)
  · exact iteF (h2 rfl)
theorem map_get {α β : Type} {l : List α} {f : α → β} {i : Nat} {d : β} (h : (l.map f)[i]? = some d) :
    ∃ p, l[i]? = some p ∧ d = f p := by
  rw [List.getElem?_map] at h
  cases e : l[i]? with
  | none => rw [e] at h; cases h
  | some p => rw [e] at h; cases h; exact ⟨p, rfl, rfl⟩
end
end G
namespace G
open PySem PySem.Spec PyProof.Rows L2
section
variable {K : PySem.W.Frag} {σ : L2.St} {H : Hp} {Q : VK} {n m : Int} {a p : Addr} {xs : List V} {v : V}
def rAbs : List V → Hp → VK → Prop := fun xs H Q => ∃ i, xs = [.int i] ∧ Q (.int (if i < 0 then -i else i)) H
def rMax2 : List V → Hp → VK → Prop := fun xs H Q => ∃ i j, xs = [.int i, .int j] ∧ Q (.int (if j > i then j else i)) H
def rMin2 : List V → Hp → VK → Prop := fun xs H Q => ∃ i j, xs = [.int i, .int j] ∧ Q (.int (if j < i then j else i)) H
def rDm : List V → Hp → VK → Prop := fun xs H Q => ∃ i j, xs = [.int i, .int j] ∧ CDivP i j ∧
  ∀ p, H p = none → Q (.ref p) (upd H p (.tup [.int (i / j), .int (i % j)]))
def rListOf (K : PySem.W.Frag) : List V → Hp → VK → Prop := fun xs H Q => ∃ p ys, xs = [.ref p] ∧
  (SqL K H p ys ∨ SqT K H p ys) ∧ ∀ l, H l = none → Q (.ref l) (upd H l (.lst ys))
def rPow : R2 := rI CPow fun i j => .int (i ^ j.toNat)
def uMod : R2 := rI (fun _ j => 0 < j) fun i j => .int (i % j)
def uDiv : R2 := rI CDivW fun i j => .int (i / j)
theorem c_abs {X : Cx} : CallR X (.builtin "abs") rAbs := call_abs
theorem c_max2 {X : Cx} (hc : X.calm = true) : CallR X (.builtin "max") rMax2 := call_max2 hc
theorem c_min2 {X : Cx} (hc : X.calm = true) : CallR X (.builtin "min") rMin2 := call_min2 hc
theorem c_dm {X : Cx} : CallR X (.builtin "divmod") rDm := call_divmodW
theorem c_list {X : Cx} : CallR X (.type "list") (rListOf X.K) := call_list_of
theorem o_pow {X : Cx} : OpR X (binaryOp .Pow) rPow := op_pow
theorem o_mod {X : Cx} : OpR X (binaryOp .Mod) uMod := op_mod
theorem o_div {X : Cx} : OpR X (binaryOp .FloorDiv) uDiv := op_fdivW
theorem i_abs (h : Q (.int (n.natAbs : Int)) H) : rAbs [.int n] H Q := by
  refine ⟨n, rfl, ?_⟩
  have e : (if n < 0 then -n else n) = (n.natAbs : Int) := by split <;> omega
  rw [e]
  exact h
instance red_i_abs  : Red (rAbs [.int n] H Q) (Q (.int (n.natAbs : Int)) H) := ⟨i_abs⟩
theorem i_max2 (h : Q (.int (max n m)) H) : rMax2 [.int n, .int m] H Q := by
  refine ⟨n, m, rfl, ?_⟩
  have e : (if m > n then m else n) = max n m := by
    rw [Int.max_def]
    split <;> split <;> omega
  rw [e]
  exact h
instance red_i_max2  : Red (rMax2 [.int n, .int m] H Q) (Q (.int (max n m)) H) := ⟨i_max2⟩
theorem i_min2 (h : Q (.int (min n m)) H) : rMin2 [.int n, .int m] H Q := by
  refine ⟨n, m, rfl, ?_⟩
  have e : (if m < n then m else n) = min n m := by
    rw [Int.min_def]
    split <;> split <;> omega
  rw [e]
  exact h
instance red_i_min2  : Red (rMin2 [.int n, .int m] H Q) (Q (.int (min n m)) H) := ⟨i_min2⟩
theorem i_mod (hc : 0 < m) (h : Q (.int (n % m)) H) : uMod (.int n) (.int m) H Q := ⟨n, m, rfl, rfl, hc, h⟩
theorem i_listL (hs : SqL K H p xs) (h : New H fun l => Q (.ref l) (upd H l (.lst xs))) :
    rListOf K [.ref p] H Q := ⟨p, xs, rfl, .inl hs, h⟩
theorem i_listT (hs : SqT K H p xs) (h : New H fun l => Q (.ref l) (upd H l (.lst xs))) :
    rListOf K [.ref p] H Q := ⟨p, xs, rfl, .inr hs, h⟩
theorem pow_go {k : Int} (e : (10 : Int) ^ m.toNat = k) (hm : 0 ≤ m ∧ m ≤ 1000000) (h : Q (.int k) H) :
    rPow (.int 10) (.int m) H Q :=
  ⟨10, m, rfl, rfl, ⟨hm.1, hm.2, by decide⟩, by
    show Q (.int (10 ^ m.toNat)) H
    rw [e]
    exact h⟩
theorem i_pw6 (h : Q (.int 1000000) H) : rPow (.int 10) (.int 6) H Q :=
  pow_go rfl (by decide) h
instance red_i_pw6  : Red (rPow (.int 10) (.int 6) H Q) (Q (.int 1000000) H) := ⟨i_pw6⟩
theorem i_pw16 (h : Q (.int 10000000000000000) H) : rPow (.int 10) (.int 16) H Q :=
  pow_go rfl (by decide) h
instance red_i_pw16  : Red (rPow (.int 10) (.int 16) H Q) (Q (.int 10000000000000000) H) := ⟨i_pw16⟩
theorem i_pw18 (h : Q (.int 1000000000000000000) H) :
    rPow (.int 10) (.int 18) H Q := pow_go rfl (by decide) h
instance red_i_pw18  : Red (rPow (.int 10) (.int 18) H Q) (Q (.int 1000000000000000000) H) := ⟨i_pw18⟩
theorem i_pw58 (h : Q (.int 10000000000000000000000000000000000000000000000000000000000) H) :
    rPow (.int 10) (.int 58) H Q := pow_go rfl (by decide) h
instance red_i_pw58  : Red (rPow (.int 10) (.int 58) H Q) (Q (.int 10000000000000000000000000000000000000000000000000000000000) H) := ⟨i_pw58⟩
theorem i_pw59 (h : Q (.int 100000000000000000000000000000000000000000000000000000000000) H) :
    rPow (.int 10) (.int 59) H Q := pow_go rfl (by decide) h
instance red_i_pw59  : Red (rPow (.int 10) (.int 59) H Q) (Q (.int 100000000000000000000000000000000000000000000000000000000000) H) := ⟨i_pw59⟩
theorem i_pw60 (h : Q (.int 1000000000000000000000000000000000000000000000000000000000000) H) :
    rPow (.int 10) (.int 60) H Q := pow_go rfl (by decide) h
instance red_i_pw60  : Red (rPow (.int 10) (.int 60) H Q) (Q (.int 1000000000000000000000000000000000000000000000000000000000000) H) := ⟨i_pw60⟩
theorem i_pw61 (h : Q (.int 10000000000000000000000000000000000000000000000000000000000000) H) :
    rPow (.int 10) (.int 61) H Q := pow_go rfl (by decide) h
instance red_i_pw61  : Red (rPow (.int 10) (.int 61) H Q) (Q (.int 10000000000000000000000000000000000000000000000000000000000000) H) := ⟨i_pw61⟩
theorem log_small {j : Int} (h0 : 0 < j) (h : j ≤ 10000000000000000000000000000000000000000000000000000000000000000000000) :
    j.natAbs.log2 < 9000 := by
  have h1 : j.natAbs < 2 ^ 9000 := by
    have h2 : j.natAbs ≤ 10 ^ 70 := by
      have e : ((10 ^ 70 : Nat) : Int) = 10000000000000000000000000000000000000000000000000000000000000000000000 := by rfl
      omega
    exact Nat.lt_of_le_of_lt h2 (by decide +kernel)
  exact (Nat.log2_lt (by omega)).mpr h1
theorem divp_small {i j : Int} (h0 : 0 < j) (h : j.natAbs.log2 < 9000) : CDivP i j := by
  refine ⟨h0, ?_⟩
  have nz : ¬ (j == 0) = true := by
    simpa using (show j ≠ 0 by omega)
  unfold Builtin.divisionGoesByPylong
  simp only [nz]
  have e : ¬ (j.natAbs.log2 / 30 + 1 > 300) := by omega
  first
    | (simp only [e, decide_false, Bool.false_and]; done)
    | (simp [e]; done)
    | (simp; omega)
theorem i_dm (h0 : 0 < m)
    (h1 : m ≤ 10000000000000000000000000000000000000000000000000000000000000000000000)
    (h : New H fun q => Q (.ref q) (upd H q (.tup [.int (n / m), .int (n % m)]))) :
    rDm [.int n, .int m] H Q := ⟨n, m, rfl, divp_small h0 (log_small h0 h1), h⟩
theorem i_div (h0 : 0 < m)
    (h1 : m ≤ 10000000000000000000000000000000000000000000000000000000000000000000000)
    (h : Q (.int (n / m)) H) : uDiv (.int n) (.int m) H Q := ⟨n, m, rfl, rfl, ⟨h0, log_small h0 h1⟩, h⟩
/-- a pot: two numbers from which draws come -/
def PotAt (H : Hp) (p : Addr) : Prop :=
  ∃ x y : Int, H p = some (.lst [.int x, .int y]) ∧ 0 ≤ x ∧ 0 ≤ y ∧ y < 8589934592
theorem PotAt.kp {ws : List Addr} {H1 : Hp} (h : PotAt H p) (k : Kp ws H H1) (hp : p ∉ ws) : PotAt H1 p := by
  obtain ⟨x, y, e, r⟩ := h
  exact ⟨x, y, k.at_ _ _ e hp, r⟩
end
end G
namespace G
open PySem PySem.Spec PyProof.Rows L2
def dty : PyData → String
  | .none => "NoneType"
  | .bool _ => "bool"
  | .int _ => "int"
  | .str _ => "str"
  | .list _ => "list"
  | .tuple _ => "tuple"
  | .dict _ => "dict"
section
variable {K : PySem.W.Frag} {σ : L2.St} {H : Hp} {Q : VK} {n m : Int} {a p : Addr} {xs : List V} {v : V} {d : PyData}
theorem dp_ty (h : Dp K H v d) : TyX K H v (.type (dty d)) := by
  cases h with
  | non => exact .base .non
  | bl b => exact .base (.bl b)
  | int i => exact .base (.int i)
  | str x => exact .base (.str x)
  | lst hs ha =>
    rcases hs with (h | ⟨o, h⟩) | ⟨o, its, k, e, c, r⟩
    · exact .base (.lst h)
    · exact .base (.frz h)
    · exact .kList e c
  | tup hs ha =>
    rcases hs with (h | ⟨o, h⟩) | ⟨o, its, k, e, c, r⟩
    · exact .base (.tup h)
    · exact .fTuple h
    · exact .kTuple e c
theorem i_isD {T : String} {b : Bool} (hd : Dp K H v d) (e : kitB (dty d) T = some b) (h : Q (.bl b) H) :
    rIsi K [v, .ty T] H Q := ⟨v, .ty T, _, _, b, rfl, .ty T, dp_ty hd, kit_ty e, h⟩
theorem i_revL {te : TE} (h : te σ H fun x H1 => ∃ a xs, x = .ref a ∧ SqL K H1 a xs ∧
    New H1 fun p => Q (.ref p) (upd H1 p (.lst xs.reverse))) : tRevL K te σ H Q := h
instance red_i_revL {te : TE} : Red (tRevL K te σ H Q) (te σ H fun x H1 => ∃ a xs, x = .ref a ∧ SqL K H1 a xs ∧
    New H1 fun p => Q (.ref p) (upd H1 p (.lst xs.reverse))) := ⟨i_revL⟩
theorem i_revd {P : Addr → List V → Prop} (hs : SqL K H a xs) (h : P a xs) :
    ∃ b ys, V.ref a = .ref b ∧ SqL K H b ys ∧ P b ys := ⟨a, xs, rfl, hs, h⟩
def rIns : V → List V → Hp → VK → Prop := fun x vs H Q => ∃ (l : Addr) (xs : List V) (i : Int) (y : V),
  x = .ref l ∧ vs = [.int i, y] ∧ H l = some (.lst xs) ∧ xs.length < sizeLine ∧ 0 ≤ i ∧ i < 2 ^ 63 ∧
  Q .non (upd H l (.lst (xs.take i.toNat ++ [y] ++ xs.drop i.toNat)))
theorem m_insert {X : Cx} : MtR X "list.insert" rIns := mt_insert
theorem i_ins0 {y : V} (hs : H p = some (.lst xs)) (hz : xs.length < sizeLine)
    (h : Q .non (upd H p (.lst (y :: xs)))) : rIns (.ref p) [.int 0, y] H Q :=
  ⟨p, xs, 0, y, rfl, rfl, hs, hz, by decide, by decide, h⟩
theorem i_call0 {sp : Sp} {E : XK} {tr : TA} (h : tr σ H fun vs H1 => sp vs H1 Q E) :
    tCall sp [] E tr σ H Q := by
  unfold tCall
  simp only [List.append_nil]
  exact h
instance red_i_call0 {sp : Sp} {E : XK} {tr : TA} : Red (tCall sp [] E tr σ H Q) (tr σ H fun vs H1 => sp vs H1 Q E) := ⟨i_call0⟩
def rAllB (K : PySem.W.Frag) : List V → Hp → VK → Prop := rAll K
theorem i_all {bs : List Bool} (hs : SqL K H p (bs.map V.bl)) (h : Q (.bl (bs.all id)) H) :
    rAll K [.ref p] H Q := ⟨p, bs, rfl, hs, h⟩
theorem i_any {bs : List Bool} (hs : SqL K H p (bs.map V.bl)) (h : Q (.bl (bs.any id)) H) :
    rAny K [.ref p] H Q := ⟨p, bs, rfl, hs, h⟩
theorem i_sum {ns : List Int} (hs : SqL K H p (ns.map V.int)) (h : Q (.int ns.sum) H) :
    rSum K [.ref p] H Q := ⟨p, ns, rfl, hs, h⟩
/-- an item by an index that is not written -/
theorem at_in {l : List V} {r : Int} (h0 : 0 ≤ r) (h1 : r < l.length) : ∃ v, atI l r = some v ∧ v ∈ l := by
  obtain ⟨k, rfl⟩ : ∃ k : Nat, r = k := ⟨r.toNat, by omega⟩
  have hl : k < l.length := by omega
  exact ⟨l[k], atI_nat (by simp), List.getElem_mem hl⟩
end
section
variable {K : PySem.W.Frag} {σ : L2.St} {H H1 : Hp} {Q : VK} {a p l : Addr} {xs : List V} {g : TG} {tt : TT} {te : TE} {vs : List Nat} {QB : Bool → Hp → Prop}
/-- a comprehension over x, a list -/
def LcL (K : PySem.W.Frag) (x : V) (g : TG) (tt : TT) (te : TE) (vs : List Nat) (σ : L2.St) (H1 : Hp) (Q : VK) : Prop :=
  ∃ a, x = .ref a ∧ (∃ xs, SqL K H1 a xs) ∧ ∀ D, H1 D = none →
    ∃ W : Nat → Nat → Hp → Prop, (∃ m, W 0 m (upd H1 D (.lst []))) ∧ ∀ i m H, W i m H →
      ((Itl K a).stop i H ∧ Q (.ref D) H) ∨ ((Itl K a).go i H ∧ ∃ Nx : Hp → Prop,
        (∀ H', Nx H' → ∃ m', m' < m ∧ W (i + 1) m' H') ∧
        ∀ x H', (Itl K a).yld i H x H' → g x (wipe σ vs) H' fun σ2 H2 => wipe σ2 vs = wipe σ vs ∧ tt σ2 H2 fun b H3 =>
          if b = true then te σ2 H3 fun y H4 => ∃ acc, H4 D = some (.lst acc) ∧ acc.length < sizeLine ∧
            Nx (upd H4 D (.lst (acc ++ [y]))) else Nx H3)
theorem i_lcL {te' : TE} (h : te' σ H fun x H1 => LcL K x g tt te vs σ H1 Q) :
    tLc (iList K te') g tt te vs σ H Q := h
instance red_i_lcL {te' : TE} : Red (tLc (iList K te') g tt te vs σ H Q) (te' σ H fun x H1 => LcL K x g tt te vs σ H1 Q) := ⟨i_lcL⟩
theorem i_elts (hs : SqL K H a xs) (Pv : Addr → Nat → Hp → Prop)
    (h0 : ∀ D, Fr H D → Pv D 0 (upd H D (.lst [])))
    (hl : ∀ D i H', Fr H D → i ≤ xs.length → Pv D i H' → SqL K H' a xs)
    (st : ∀ D i x H', Fr H D → xs[i]? = some x → Pv D i H' → g x (wipe σ vs) H' fun σ2 H2 =>
      wipe σ2 vs = wipe σ vs ∧ tt σ2 H2 fun b H3 => if b = true then te σ2 H3 fun y H4 =>
        ∃ acc, H4 D = some (.lst acc) ∧ acc.length < sizeLine ∧ Pv D (i + 1) (upd H4 D (.lst (acc ++ [y])))
        else Pv D (i + 1) H3)
    (hd : ∀ D H', Fr H D → Pv D xs.length H' → Q (.ref D) H') : LcL K (.ref a) g tt te vs σ H Q := by
  refine ⟨a, rfl, ⟨_, hs⟩, fun D hD => ?_⟩
  exact lc_list (K := K) (a := a) (xs := xs) (Pv D) (h0 D ⟨hD⟩) (fun i H' => hl D i H' ⟨hD⟩)
    (fun i x H' => st D i x H' ⟨hD⟩) (fun H' => hd D H' ⟨hD⟩)
def LcR (ws : List V) (g : TG) (tt : TT) (te : TE) (vs : List Nat) (σ : L2.St) (H1 : Hp) (Q : VK) : Prop :=
  ∃ j : Int, ws = [.int j] ∧ -(2 ^ 62) ≤ j ∧ j < 2 ^ 62 ∧ ∀ D, H1 D = none →
    ∃ W : Nat → Nat → Hp → Prop, (∃ m, W 0 m (upd H1 D (.lst []))) ∧ ∀ i m H, W i m H →
      ((Itr 0 j.toNat).stop i H ∧ Q (.ref D) H) ∨ ((Itr 0 j.toNat).go i H ∧ ∃ Nx : Hp → Prop,
        (∀ H', Nx H' → ∃ m', m' < m ∧ W (i + 1) m' H') ∧
        ∀ x H', (Itr 0 j.toNat).yld i H x H' → g x (wipe σ vs) H' fun σ2 H2 => wipe σ2 vs = wipe σ vs ∧ tt σ2 H2 fun b H3 =>
          if b = true then te σ2 H3 fun y H4 => ∃ acc, H4 D = some (.lst acc) ∧ acc.length < sizeLine ∧
            Nx (upd H4 D (.lst (acc ++ [y]))) else Nx H3)
theorem i_lcR {ta : TA} (h : ta σ H fun ws H1 => LcR ws g tt te vs σ H1 Q) :
    tLc (iRng1 ta) g tt te vs σ H Q := h
instance red_i_lcR {ta : TA} : Red (tLc (iRng1 ta) g tt te vs σ H Q) (ta σ H fun ws H1 => LcR ws g tt te vs σ H1 Q) := ⟨i_lcR⟩
theorem i_reps {n : Int} (b1 : 0 ≤ n) (b2 : n < 2 ^ 62) (Pv : Addr → Nat → Hp → Prop)
    (h0 : ∀ D, Fr H D → Pv D 0 (upd H D (.lst [])))
    (st : ∀ D (i : Nat) H', Fr H D → (i : Int) < n → Pv D i H' → g (.int i) (wipe σ vs) H' fun σ2 H2 =>
      wipe σ2 vs = wipe σ vs ∧ tt σ2 H2 fun b H3 => if b = true then te σ2 H3 fun y H4 =>
        ∃ acc, H4 D = some (.lst acc) ∧ acc.length < sizeLine ∧ Pv D (i + 1) (upd H4 D (.lst (acc ++ [y])))
        else Pv D (i + 1) H3)
    (hd : ∀ D H', Fr H D → Pv D n.toNat H' → Q (.ref D) H') : LcR [.int n] g tt te vs σ H Q := by
  refine ⟨n, rfl, by omega, b2, fun D hD => ?_⟩
  refine lc_range (lo := 0) (n := n.toNat) (Pv D) (h0 D ⟨hD⟩) (fun i H' hi q => ?_) (fun H' => hd D H' ⟨hD⟩)
  have e : V.int (0 + (i : Int)) = V.int i := by rw [Int.zero_add]
  rw [e]
  exact st D i H' ⟨hD⟩ (by omega) q
theorem i_wipe {σ2 : L2.St} {P : Prop} (e : wipe σ2 vs = wipe σ vs) (h : P) : wipe σ2 vs = wipe σ vs ∧ P := ⟨e, h⟩
theorem i_yes (h : QB true H) : tYes σ H QB := h
instance red_i_yes  : Red (tYes σ H QB) (QB true H) := ⟨i_yes⟩
theorem i_acc {D : Addr} {y : V} {P : Hp → Prop} {acc : List V} (h1 : H D = some (.lst acc)) (h2 : acc.length < sizeLine)
    (h : P (upd H D (.lst (acc ++ [y])))) : ∃ acc, H D = some (.lst acc) ∧ acc.length < sizeLine ∧ P (upd H D (.lst (acc ++ [y]))) :=
  ⟨acc, h1, h2, h⟩
end
end G
namespace G
open PySem PySem.Spec PyProof.Rows L2
section
variable {K : PySem.W.Frag} {H H1 : Hp} {a p l q : Addr} {ws : List Addr} {o u : HO} {ds : List PyData}
theorem kp_at (k : Kp ws H H1) (h : H a = some u) (n : a ∉ ws) : H1 a = some u := k.at_ a u h n
theorem not_nil {α : Type} {a : α} : a ∉ ([] : List α) := List.not_mem_nil
theorem not_one {a b : Addr} (h : a ≠ b) : a ∉ [b] := fun z => h (List.mem_singleton.mp z)
theorem not_two {a b c : Addr} (h : a ≠ b) (h2 : a ≠ c) : a ∉ [b, c] := fun z => by
  rcases List.mem_cons.mp z with z | z
  · exact h z
  · exact h2 (List.mem_singleton.mp z)
theorem pot_upd (h : PotAt H p) (n : p ≠ q) : PotAt (upd H q o) p := by
  obtain ⟨x, y, e, r⟩ := h
  exact ⟨x, y, by rw [upd_ne n]; exact e, r⟩
theorem PotAt.ne {x : Addr} (h : PotAt H p) (f : Fr H x) : p ≠ x := by
  have hx := f.e
  obtain ⟨_, _, e, _⟩ := h
  exact ne_of_none e hx
theorem pot_ne {x : Addr} (hx : Fr H x) (h : PotAt H p) : p ≠ x := h.ne hx
theorem LD.ne {x : Addr} (h : LD K H l ds) (f : Fr H x) : l ≠ x := by
  have hx := f.e
  obtain ⟨_, e, _⟩ := h
  exact ne_of_none e hx
theorem ld_ne {x : Addr} (f : Fr H x) (h : LD K H l ds) : l ≠ x := h.ne f
theorem ld_upd (h : LD K H l ds) (hi : imms ds = true) (hq : Fr H q) : LD K (upd H q o) l ds := by
  have k : Kp ([] : List Addr) H (upd H q o) := Kp.new hq
  exact h.kp k hi not_nil
theorem ld_upl {ys : List V} (h : LD K H l ds) (hi : imms ds = true) (hq : H q = some (.lst ys))
    (n : l ≠ q) : LD K (upd H q o) l ds := by
  have k : Kp [q] H (upd H q o) := Kp.mut hq (fun z => z) (List.mem_singleton.mpr rfl)
  exact h.kp k hi (not_one n)
theorem sqL_new {xs : List V} (h : SqL K H a xs) (f : Fr H q) : SqL K (upd H q o) a xs :=
  (Kp.new (ws := []) f).seqL not_nil h
theorem sqL_kp {xs : List V} (k : Kp ws H H1) (h : SqL K H a xs) (n : a ∉ ws) : SqL K H1 a xs := k.seqL n h
theorem at_zero {x : V} {xs : List V} : atI (x :: xs) 0 = some x := atI_nat (j := 0) rfl
theorem ix_zero (n : Nat) : ixN (n + 1) 0 = some 0 := by
  unfold ixN
  rw [if_pos (by decide), if_pos (by omega)]
  rfl
theorem dpa_rev : ∀ {ds : List PyData} {vs : List V}, DpAll K H vs ds → DpAll K H vs.reverse ds.reverse
  | [], _, h => by cases h; exact .nil
  | _ :: _, _, h => by
    cases h with
    | cons h1 h2 =>
      rw [List.reverse_cons, List.reverse_cons]
      exact dpa_app (dpa_rev h2) (dpa_one h1)
/-- something is put behind -/
theorem ld_app {y : V} {d : PyData} {vs : List V} (h : DpAll K H vs ds) (e : H l = some (.lst vs))
    (hi : imms ds = true) (hd : Dp K H y d) (hj : imm d = true) : LD K (upd H l (.lst (vs ++ [y]))) l (ds ++ [d]) := by
  have k : Kp [l] H (upd H l (.lst (vs ++ [y]))) := Kp.mut e (fun z => z) (List.mem_singleton.mpr rfl)
  exact ⟨_, upd_same, dpa_app (dpa_imm k _ _ hi h) (dpa_one (dp_imm k _ _ hj hd))⟩
end
end G

namespace G
open PySem PySem.Spec PyProof.Rows L2
/-! the same rules, the written part named -/
section
variable {X : Cx} {K : PySem.W.Frag} {e : Expr} {es : List Expr} {te : TE} {t : TGs} {f : Str} {pos : Pos} {tg : Expr}
theorem k_add (h : X.K = K) : OpR X (binaryOp .Add) (uAdd K) := h ▸ o_add
theorem k_eq (h : X.K = K) (hu : X.A.units + 64 < cLine) : OpR X (compareOp .Eq) (uEq K) := h ▸ o_eq hu
theorem k_ne (h : X.K = K) (hu : X.A.units + 64 < cLine) : OpR X (compareOp .NotEq) (uNe K) := h ▸ o_ne hu
theorem k_ix (h : X.K = K) : IxR X (uIx K) := h ▸ o_ix
theorem k_len (h : X.K = K) : CallR X (.builtin "len") (uLen K) := h ▸ c_len
theorem k_list (h : X.K = K) : CallR X (.type "list") (rListOf K) := h ▸ c_list
theorem k_repr (h : X.K = K) (hg : X.A.guards = some []) (hu : X.A.units + 64 < cLine) :
    CallR X (.builtin "repr") (rRepr K) := h ▸ call_repr hg hu
theorem k_all (h : X.K = K) (hc : X.calm = true) : CallR X (.builtin "all") (rAll K) := h ▸ cr_all hc
theorem k_any (h : X.K = K) (hc : X.calm = true) : CallR X (.builtin "any") (rAny K) := h ▸ cr_any hc
theorem k_sum (h : X.K = K) (hc : X.calm = true) : CallR X (.builtin "sum") (rSum K) := h ▸ cr_sum hc
theorem k_isi (h : X.K = K) : CallR X (.builtin "isinstance") (rIsi K) := h ▸ call_isi
theorem k_sl (h : X.K = K) : SlR X (rSlL K) := h ▸ sl_list
theorem k_slT (h : X.K = K) : SlR X (rSlT K) := h ▸ sl_tup
theorem k_in (h : X.K = K) : OpR X (compareOp .In) (rIn K false) := h ▸ op_in_seq
theorem k_nin (h : X.K = K) : OpR X (compareOp .NotIn) (rIn K true) := h ▸ op_notIn_seq
theorem k_fld (h : X.K = K) (he : PE X e te) (hb : attributeBase e f X.env (eval e X.env) = eval e X.env) :
    PE X (.Attribute e f pos) (tFld K te f) := h ▸ pe_fld he hb
theorem k_plist (h : X.K = K) (he : PE X e te) : PI X tg e (iList K te) := h ▸ pi_list he
theorem k_ptup (h : X.K = K) (he : PE X e te) : PI X tg e (iTup K te) := h ▸ pi_tup he
theorem k_rev {k : Nat} {p1 p2 p3 : Pos} (h : X.K = K) (he : PE X e te) :
    PE X (.Subscript e (.Slice none none (some (.UnaryOp .USub (.Constant (.int 1) k p1) p2)) p3) pos) (tRevL K te) :=
  h ▸ pe_revL he
theorem k_gtup {k : Nat} (n : Nat) (h : X.K = K) (hc : X.calm = true) (hp : PGs X es t)
    (hn : (assignEach es X.env).length = n := by rfl)
    (hst : (assignEach es X.env).findIdx? (·.1) = none := by rfl) : PG X (.Tuple es k pos) (gTup K n t) :=
  h ▸ pg_tup hc hp hn hst
end
end G
namespace G
open PySem PySem.Spec PyProof.Rows L2
/-! what is tracked; what is fixed -/
structure Tr (H : Hp) (a : Addr) : Prop where
  ex : ∃ o, H a = some o
structure Fx (H H1 : Hp) : Prop where
  fx : ∀ a u, H a = some u → Fix u → H1 a = some u
section
variable {K : PySem.W.Frag} {H H0 H1 : Hp} {Q : VK} {a b p l q : Addr} {ws : List Addr} {o u : HO} {ds : List PyData} {xs : List V} {n : Int} {v : V}
theorem tr_of (h : H a = some o) : Tr H a := ⟨o, h⟩
theorem tr_same : Tr (upd H p o) p := ⟨o, upd_same⟩
theorem tr_upd (h : Tr H a) : Tr (upd H p o) a := by
  by_cases e : a = p
  · rw [e]
    exact tr_same
  · obtain ⟨u, h⟩ := h.ex
    exact ⟨u, by rw [upd_ne e]; exact h⟩
theorem tr_kp (k : Kp ws H H1) (h : Tr H a) : Tr H1 a := by
  obtain ⟨u, h⟩ := h.ex
  obtain ⟨v, e⟩ := k.dom _ _ h
  exact ⟨v, e⟩
theorem tr_ld (h : LD K H a ds) : Tr H a := by
  obtain ⟨vs, e, _⟩ := h
  exact ⟨_, e⟩
theorem tr_pot (h : PotAt H a) : Tr H a := by
  obtain ⟨x, y, e, _⟩ := h
  exact ⟨_, e⟩
theorem fr_tr (h : Tr H a) (f : Fr H b) : a ≠ b := by
  obtain ⟨u, e⟩ := h.ex
  exact fr_ne e f
theorem fx_refl : Fx H H := ⟨fun _ _ h _ => h⟩
theorem fx_new (h : Fx H0 H) (f : Fr H p) : Fx H0 (upd H p o) := ⟨fun a u e z => by
  have e2 := h.fx a u e z
  rw [upd_ne (fr_ne e2 f)]
  exact e2⟩
theorem fx_mut (h : Fx H0 H) (f : H p = some u) (nf : ¬ Fix u) : Fx H0 (upd H p o) := ⟨fun a v e z => by
  have e2 := h.fx a v e z
  rw [upd_ne]
  · exact e2
  · intro c
    subst c
    rw [f] at e2
    cases e2
    exact nf z⟩
theorem fx_kp (k : Kp ws H H1) (h : Fx H0 H) : Fx H0 H1 := ⟨fun a u e z => k.fix a u (h.fx a u e z) z⟩
theorem Fx.seqT (k : Fx H H1) (h : SqT K H l xs) : SqT K H1 l xs := by
  rcases h with (h | ⟨o, h⟩) | h
  · exact .inl (.inl (k.fx _ _ h trivial))
  · exact .inl (.inr ⟨o, k.fx _ _ h trivial⟩)
  · exact .inr h
mutual
theorem Fx.dp (k : Fx H H1) : ∀ (d : PyData) (v : V), imm d = true → Dp K H v d → Dp K H1 v d
  | .none, _, _, h => by cases h; exact .non
  | .bool b, _, _, h => by cases h; exact .bl b
  | .int i, _, _, h => by cases h; exact .int i
  | .str x, _, _, h => by cases h; exact .str x
  | .tuple ds, _, hi, h => by
    cases h with
    | tup hs ha => exact .tup (k.seqT hs) (Fx.dpa k ds _ (by simpa only [imm] using hi) ha)
  | .list _, _, hi, _ => by simp only [imm] at hi; cases hi
  | .dict _, _, hi, _ => by simp only [imm] at hi; cases hi
theorem Fx.dpa (k : Fx H H1) : ∀ (ds : List PyData) (vs : List V), imms ds = true →
    DpAll K H vs ds → DpAll K H1 vs ds
  | [], _, _, h => by cases h; exact .nil
  | d :: ds, _, hi, h => by
    simp only [imms, Bool.and_eq_true] at hi
    cases h with
    | cons h1 h2 => exact .cons (Fx.dp k d _ hi.1 h1) (Fx.dpa k ds _ hi.2 h2)
end
/-- an item of an object -/
def ixO : HO → Int → V → Prop
  | .lst xs, n, v => atI xs n = some v
  | .tup xs, n, v => atI xs n = some v
  | _, _, _ => False
theorem i_ixO (h : H p = some o) (hv : ixO o n v) (q : Q v H) : uIx K (.ref p) (.int n) H Q := by
  cases o with
  | lst xs => exact i_ixL (SqL.of h) hv q
  | tup xs => exact i_ixT (SqT.of h) hv q
  | _ => exact hv.elim
theorem i_ixS (h0 : SqT K H0 p xs) (k : Fx H0 H) (hv : atI xs n = some v) (q : Q v H) :
    uIx K (.ref p) (.int n) H Q := i_ixT (k.seqT h0) hv q
def lenO : HO → Int → Prop
  | .lst xs, n => n = xs.length
  | .tup xs, n => n = xs.length
  | _, _ => False
theorem i_lenO (h : H p = some o) (hv : lenO o n) (q : Q (.int n) H) : uLen K [.ref p] H Q := by
  cases o with
  | lst xs =>
    have e : n = xs.length := hv
    subst e
    exact i_lenL (SqL.of h) q
  | tup xs =>
    have e : n = xs.length := hv
    subst e
    exact i_lenT (SqT.of h) q
  | _ => exact hv.elim
end
end G
namespace G
open PySem PySem.Spec PyProof.Rows L2
section
variable {K : PySem.W.Frag} {H : Hp} {Q : VK} {x y : V} {d : PyData}
theorem ne_same (hx : Dp K H x d) (hy : Dp K H y d) (sh : SeqAt.shaped d = true) (h : Q (.bl false) H) :
    uNe K x y H Q := by
  refine i_neD hx hy sh sh ?_
  rw [SeqAt.eqv_refl d (SeqAt.canLay_of_shaped sh)]
  exact h
theorem eq_same (hx : Dp K H x d) (hy : Dp K H y d) (sh : SeqAt.shaped d = true) (h : Q (.bl true) H) :
    uEq K x y H Q := by
  refine i_eqD hx hy sh sh ?_
  rw [SeqAt.eqv_refl d (SeqAt.canLay_of_shaped sh)]
  exact h
/-- a number that may be shown -/
def okI (i : Int) : Prop := i.natAbs.log2 < 1920
theorem okI_of {i : Int} (h0 : -100000000000000000000000000000000000000000000000000000000000000000000000 ≤ i)
    (h1 : i ≤ 100000000000000000000000000000000000000000000000000000000000000000000000) : okI i := by
  unfold okI
  have h2 : i.natAbs ≤ 10 ^ 71 := by
    have e : ((10 ^ 71 : Nat) : Int) = 100000000000000000000000000000000000000000000000000000000000000000000000 := by rfl
    omega
  by_cases z : i.natAbs = 0
  · rw [z]
    decide
  · exact (Nat.log2_lt z).mpr (Nat.lt_of_le_of_lt h2 (by decide +kernel))
theorem shws_pairs : ∀ l : List (Int × Int), (∀ q ∈ l, okI q.1 ∧ okI q.2) → shws (l.map d2) = true
  | [], _ => rfl
  | q :: l, h => by
    have a := h q List.mem_cons_self
    have b := shws_pairs l fun z hz => h z (List.mem_cons_of_mem _ hz)
    simp only [List.map_cons, shws, shw, b, Bool.and_true, Bool.and_eq_true, decide_eq_true_eq]
    exact a
theorem cws_pairs : ∀ l : List (Int × Int), cws (l.map d2) = 3868 * l.length
  | [] => rfl
  | q :: l => by
    simp only [List.map_cons, cws, cw, cws_pairs l, List.length_cons]
    omega
theorem depth_list (l : List (Int × Int)) : (PyData.list (l.map d2)).depth ≤ 60 := by
  simp only [PyData.depth]
  have q := depth_pairs l
  omega
theorem repr_pairs {l : List (Int × Int)} (hx : Dp K H x (.list (l.map d2))) (h : ∀ q ∈ l, okI q.1 ∧ okI q.2)
    (hl : l.length ≤ 4000) (q : Q (.str (PyData.list (l.map d2)).shown) H) : rRepr K [x] H Q := by
  refine i_repr hx ?_ (depth_list l) ?_ q
  · simp only [shw]
    exact shws_pairs l h
  · have e : cw (.list (l.map d2)) = 3868 * l.length + 2 := by simp only [cw, cws_pairs]
    rw [e]
    exact Nat.le_trans (show 3868 * l.length + 2 ≤ 15472002 by omega) (by decide)
end
end G
namespace G
open PySem PySem.Spec PyProof.Rows L2
/-! methods, new instances, keywords -/
section
variable {X : Cx} {k n : Nat} {f C : Addr} {fd : FuncData} {ps ks : List Str} {sp : Sp}
variable {dvs : List V} {ds : List Value} {E : XK} {x m : Str} {p pos apos : Pos} {e o : Expr}
variable {es : List Expr} {kws : List Keyword} {ta : TE} {t tk : TA} {pins : List (Addr × Obj)} {σ : L2.St} {H : Hp}
variable {s s' : Shared} {Q : VK} {g : List Value → List Value → List Value} {gV : List V → List V → List V}
/-- defaults of which only the values are known -/
def BindsD (K : PySem.W.Frag) (fd : FuncData) (ps : List Str) (dvs : List V) : Prop :=
  ∃ ds, Vals dvs ds ∧ Binds K fd ps ds
def KBnD (K : PySem.W.Frag) (fd : FuncData) (ps : List Str) (n : Nat) (ks : List Str)
    (gV : List V → List V → List V) : Prop := ∃ g, KBn K fd ps n ks g gV
theorem BindsD.plain {K : PySem.W.Frag} (h : Binds K fd ps []) : BindsD K fd ps [] := ⟨[], .nil, h⟩
theorem d1 (F : Fg X k f fd ps sp) (z : RoomG k X.A) (hg : Gl X x) (hm : X.mg x = some (.ref f))
    (hk : PySem.W.keepIn X.K (.ref f) = true) (hb : BindsD X.K fd ps dvs)
    (hx : Ps X E) (ha : PA X (e :: es) t)
    (hdb : (x == ("__debug__" : Str)) = false := by decide)
    (he : starEach (e :: es) X.env = (false, eval e X.env) :: starEach es X.env := by rfl)
    (hpl : (backTo pos (starEach es X.env)).any (·.1) = false := by rfl) :
    PE X (.Call (.Name x p) (e :: es) [] pos) (tCall sp dvs E t) := by
  obtain ⟨ds, hd, hb⟩ := hb
  exact c1 F z hg hm hk hb hd hx ha hdb he hpl
theorem dm {pl : Sem Bool} (c : Cls X.K C) (hm : Meth X.K C m f)
    (F : Fg X k f fd ps sp) (z : RoomG k X.A) (hb : BindsD X.K fd ps dvs)
    (hx : Ps X E) (he : PE X o ta) (ha : PA X (e :: es) t)
    (hst : starEach (e :: es) X.env = (false, eval e X.env) :: starEach es X.env := by rfl)
    (hpl : (backTo pos (starEach es X.env)).any (·.1) = false := by rfl)
    (ht : eval (.Call (.Attribute o m apos) (e :: es) [] pos) X.env = (do
      let y ← eval o X.env
      standAt apos.atName
      let (g, a) ← holding [y] (getMethod y m pl)
      callWith pos g a (backTo pos (starEach (e :: es) X.env))
        (backToKw pos (keywordEach [] X.env))) := by rfl) :
    PE X (.Call (.Attribute o m apos) (e :: es) [] pos) (tMeth C m sp dvs E ta t) := by
  obtain ⟨ds, hd, hb⟩ := hb
  exact cm he c hm F z hb hd hx ha hst hpl ht
theorem dm0 {pl : Sem Bool} (c : Cls X.K C) (hm : Meth X.K C m f)
    (F : Fg X k f fd ps sp) (z : RoomG k X.A) (hb : BindsD X.K fd ps dvs)
    (hx : Ps X E) (he : PE X o ta)
    (ht : eval (.Call (.Attribute o m apos) [] [] pos) X.env = (do
      let y ← eval o X.env
      standAt apos.atName
      let (g, a) ← holding [y] (getMethod y m pl)
      callWith pos g a (backTo pos (starEach [] X.env))
        (backToKw pos (keywordEach [] X.env))) := by rfl) :
    PE X (.Call (.Attribute o m apos) [] [] pos) (tMeth C m sp dvs E ta tNil) := by
  obtain ⟨ds, hd, hb⟩ := hb
  exact cm0 he c hm F z hb hd hx ht
/-- a call of f with positional values and keywords -/
theorem runK {us ws : List Value} {vs zs : List V} (F : Fg X k f fd ps sp) (z : RoomG k X.A)
    (hb : KBn X.K fd ps n ks g gV) (hx : Ps X E) (I : Inv X pins σ H s) (rv : Vals vs us) (rz : Vals zs ws)
    (l1 : vs.length = n) (l2 : zs.length = ks.length) (h : sp (gV vs zs) H Q E) :
    wpAny (model X.prog X.w) X.A (call (.ref f) us (ks.zip ws)) (EP X pins σ Q) X.xe s := by
  have b := hb.to s us ws I.kIn (rv.length.symm.trans l1) (rz.length.symm.trans l2)
  refine wpAny_call (codeAny_mono (runG F z b hx I (hb.rel rv rz) h) ?_)
  intro r s' q
  match r, q with
  | .error e, q => exact q
  | .ok (.ret u), q => exact q
  | .ok .next, q => exact q
  | .ok .brk, q => exact q
  | .ok .cont, q => exact q
def tKw (n m : Nat) (sp : Sp) (gV : List V → List V → List V) (E : XK) (t tk : TA) : TE := fun σ H Q =>
  t σ H fun vs H1 => tk σ H1 fun zs H2 => vs.length = n ∧ zs.length = m ∧ sp (gV vs zs) H2 Q E
def tMw (C : Addr) (nm : Str) (n m : Nat) (sp : Sp) (gV : List V → List V → List V) (E : XK) (ta : TE) (t tk : TA) : TE :=
  fun σ H Q => ta σ H fun x H1 => ∃ a dx fs, x = .ref a ∧ H1 a = some (.ins C dx fs) ∧ fs.lookup nm = none ∧
    t σ H1 fun vs H2 => tk σ H2 fun zs H3 => vs.length = n ∧ zs.length = m ∧ sp (gV (x :: vs) zs) H3 Q E
theorem kc (F : Fg X k f fd ps sp) (z : RoomG k X.A) (hg : Gl X x) (hm : X.mg x = some (.ref f))
    (hk : PySem.W.keepIn X.K (.ref f) = true) (hb : KBnD X.K fd ps n ks gV) (hx : Ps X E)
    (ha : PA X (e :: es) t) (hkw : PK X kws tk)
    (hall : (backToKw pos (keywordEach kws X.env)).all (·.1.isSome) = true := by rfl)
    (hks : (backToKw pos (keywordEach kws X.env)).filterMap (·.1) = ks := by rfl)
    (hdb : (x == ("__debug__" : Str)) = false := by decide)
    (he : starEach (e :: es) X.env = (false, eval e X.env) :: starEach es X.env := by rfl)
    (hpl : ((backTo pos (starEach (e :: es) X.env)).any (·.1) ||
      (backToKw pos (keywordEach kws X.env)).any (·.1.isNone)) = false := by rfl) :
    PE X (.Call (.Name x p) (e :: es) kws pos) (tKw n ks.length sp gV E t tk) := by
  obtain ⟨g, hb⟩ := hb
  constructor
  intro pins s σ H Q I h
  refine wpAny_Call_Name_kw (ld_glob I hg hm ?_ hdb)
  refine PySem.W.callWith_KW (h₀ := X.base) I.ok.mod.kin hk hall ?_ hpl he
  refine thn (ha.run pos pins s σ H _ I h) ?_
  intro us s1 y
  obtain ⟨vs, H1, I1, r, q⟩ := y
  refine thn (hkw.run pos pins s1 σ H1 _ I1 q) ?_
  intro ws s2 y
  obtain ⟨zs, H2, I2, rz, l1, l2, q2⟩ := y
  refine ⟨I2.kIn, ?_⟩
  rw [hks]
  exact runK F z hb hx I2 r rz l1 l2 q2
theorem kc0 (F : Fg X k f fd ps sp) (z : RoomG k X.A) (hg : Gl X x) (hm : X.mg x = some (.ref f))
    (hk : PySem.W.keepIn X.K (.ref f) = true) (hb : KBnD X.K fd ps 0 ks gV) (hx : Ps X E)
    (hkw : PK X kws tk)
    (hall : (backToKw pos (keywordEach kws X.env)).all (·.1.isSome) = true := by rfl)
    (hks : (backToKw pos (keywordEach kws X.env)).filterMap (·.1) = ks := by rfl)
    (hdb : (x == ("__debug__" : Str)) = false := by decide)
    (hpl : ((backTo pos (starEach [] X.env)).any (·.1) ||
      (backToKw pos (keywordEach kws X.env)).any (·.1.isNone)) = false := by rfl) :
    PE X (.Call (.Name x p) [] kws pos) (tKw 0 ks.length sp gV E tNil tk) := by
  obtain ⟨g, hb⟩ := hb
  constructor
  intro pins s σ H Q I h
  refine wpAny_Call_Name_kw (ld_glob I hg hm ?_ hdb)
  refine PySem.W.callWith_KW0 (h₀ := X.base) I.ok.mod.kin hk hall ?_ hpl
  refine thn (hkw.run pos pins s σ H _ I h) ?_
  intro ws s2 y
  obtain ⟨zs, H2, I2, rz, l1, l2, q2⟩ := y
  refine ⟨I2.kIn, ?_⟩
  rw [hks]
  exact runK (us := []) (vs := []) F z hb hx I2 .nil rz l1 l2 q2
theorem km {pl : Sem Bool} (c : Cls X.K C) (hm : Meth X.K C m f)
    (F : Fg X k f fd ps sp) (z : RoomG k X.A) (hb : KBnD X.K fd ps (n + 1) ks gV)
    (hx : Ps X E) (he : PE X o ta) (ha : PA X (e :: es) t) (hkw : PK X kws tk)
    (hall : (backToKw pos (keywordEach kws X.env)).all (·.1.isSome) = true := by rfl)
    (hks : (backToKw pos (keywordEach kws X.env)).filterMap (·.1) = ks := by rfl)
    (hst : starEach (e :: es) X.env = (false, eval e X.env) :: starEach es X.env := by rfl)
    (hpl : ((backTo pos (starEach (e :: es) X.env)).any (·.1) ||
      (backToKw pos (keywordEach kws X.env)).any (·.1.isNone)) = false := by rfl)
    (ht : eval (.Call (.Attribute o m apos) (e :: es) kws pos) X.env = (do
      let y ← eval o X.env
      standAt apos.atName
      let (g, a) ← holding [y] (getMethod y m pl)
      callWith pos g a (backTo pos (starEach (e :: es) X.env))
        (backToKw pos (keywordEach kws X.env))) := by rfl) :
    PE X (.Call (.Attribute o m apos) (e :: es) kws pos) (tMw C m n ks.length sp gV E ta t tk) := by
  obtain ⟨g, hb⟩ := hb
  constructor
  intro pins s σ H Q I h
  refine PySem.W.methodCall_KW (pl := pl) (thn (he.run pins s σ H _ I h) ?_) ht
  intro u s1 y
  obtain ⟨v, H1, I1, rx, a, dx, fs, ex, ea, l, q⟩ := y
  subst ex
  obtain rfl : u = Value.ref a := rx
  refine getmeth_ok I1 ea c hm l ?_
  refine PySem.W.callWith_KW (first := [.ref a]) (h₀ := X.base) I.ok.mod.kin hm.kp hall ?_ hpl hst
  refine thn (ha.run pos pins s1 σ H1 _ I1 q) ?_
  intro us s2 y
  obtain ⟨vs, H2, I2, r, q2⟩ := y
  refine thn (hkw.run pos pins s2 σ H2 _ I2 q2) ?_
  intro ws s3 y
  obtain ⟨zs, H3, I3, rz, l1, l2, q3⟩ := y
  refine ⟨I3.kIn, ?_⟩
  rw [hks]
  exact runK (us := .ref a :: us) (vs := .ref a :: vs) F z hb hx I3 (.cons rfl r) rz (by rw [List.length_cons, l1]) l2 q3
theorem km0 {pl : Sem Bool} (c : Cls X.K C) (hm : Meth X.K C m f)
    (F : Fg X k f fd ps sp) (z : RoomG k X.A) (hb : KBnD X.K fd ps 1 ks gV)
    (hx : Ps X E) (he : PE X o ta) (hkw : PK X kws tk)
    (hall : (backToKw pos (keywordEach kws X.env)).all (·.1.isSome) = true := by rfl)
    (hks : (backToKw pos (keywordEach kws X.env)).filterMap (·.1) = ks := by rfl)
    (hpl : ((backTo pos (starEach [] X.env)).any (·.1) ||
      (backToKw pos (keywordEach kws X.env)).any (·.1.isNone)) = false := by rfl)
    (ht : eval (.Call (.Attribute o m apos) [] kws pos) X.env = (do
      let y ← eval o X.env
      standAt apos.atName
      let (g, a) ← holding [y] (getMethod y m pl)
      callWith pos g a (backTo pos (starEach [] X.env))
        (backToKw pos (keywordEach kws X.env))) := by rfl) :
    PE X (.Call (.Attribute o m apos) [] kws pos) (tMw C m 0 ks.length sp gV E ta tNil tk) := by
  obtain ⟨g, hb⟩ := hb
  constructor
  intro pins s σ H Q I h
  refine PySem.W.methodCall_KW (pl := pl) (thn (he.run pins s σ H _ I h) ?_) ht
  intro u s1 y
  obtain ⟨v, H1, I1, rx, a, dx, fs, ex, ea, l, q⟩ := y
  subst ex
  obtain rfl : u = Value.ref a := rx
  refine getmeth_ok I1 ea c hm l ?_
  refine PySem.W.callWith_KW0 (first := [.ref a]) (h₀ := X.base) I.ok.mod.kin hm.kp hall ?_ hpl
  refine thn (hkw.run pos pins s1 σ H1 _ I1 q) ?_
  intro ws s3 y
  obtain ⟨zs, H3, I3, rz, l1, l2, q3⟩ := y
  refine ⟨I3.kIn, ?_⟩
  rw [hks]
  exact runK (us := [.ref a]) (vs := [.ref a]) F z hb hx I3 (.cons rfl .nil) rz (by rw [List.length_singleton]) l2 q3
/-- a new instance, then its __init__ -/
def Made (C : Addr) (sp : Sp) (E : XK) (H : Hp) (Q : VK) (vs : Addr → List V) : Prop :=
  ∀ x dx, H x = none → H dx = none → dx ≠ x →
    sp (vs x) (upd (upd H dx (.own x)) x (.ins C dx [])) (fun v H2 => v = .non ∧ Q (.ref x) H2) E
theorem runM {vs : Addr → List V} (M : Mk X.K C f) (F : Fg X k f fd ps sp)
    (z : RoomG (k + 1) X.A) (hx : Ps X E) (I : Inv X pins σ H s) {us0 : List Value} {kw : List (Str × Value)}
    {us : Addr → List Value} (hb : ∀ (s : Shared) (x : Addr), X.K.In s.heap → BindsTo s fd ⟨.ref x :: us0, kw⟩ (ps.zip (us x)))
    (h : Made C sp E H Q vs)
    (rv : ∀ x, Vals (vs x) (us x)) :
    wpAny (model X.prog X.w) X.A (call (.ref C) us0 kw) (EP X pins σ Q) X.xe s := by
  have hq := h (s.heap.objs.size + 1) s.heap.objs.size (I.hok.fresh (Nat.le_succ _)) (I.hok.fresh (Nat.le_refl _))
    (Nat.ne_of_lt (Nat.lt_succ_self _))
  have I2 := Inv.made (C := C) I
  refine wpAny_call (make_map (f := f) I.kIn M.makes M.init (beq_iff_eq.mp M.fn) (codeAny_mono
    (F.run _ X.stack _ _ ⟨.ref (s.heap.objs.size + 1) :: us0, kw⟩ _ _ _ E (z.make C us0 kw)
      (I2.env0.make C us0 kw) (hb _ _ I2.kIn) (rv _) hq) ?_))
  intro r s' q
  match r, q with
  | .error e, q => exact hx pins σ _ _ e s' I2 q
  | .ok (.ret u), q =>
    obtain ⟨v, H', I3, rv, ev, q3⟩ := I2.after q
    subst ev
    exact ⟨rv, ⟨V.ref (s.heap.objs.size + 1), H', I3, rfl, q3⟩⟩
  | .ok .next, q => exact False.elim q
  | .ok .brk, q => exact False.elim q
  | .ok .cont, q => exact False.elim q
def tMk (C : Addr) (sp : Sp) (dvs : List V) (E : XK) (t : TA) : TE := fun σ H Q => t σ H fun vs H1 =>
  Made C sp E H1 Q fun x => .ref x :: (vs ++ dvs)
def tMkK (C : Addr) (n m : Nat) (sp : Sp) (gV : List V → List V → List V) (E : XK) (t tk : TA) : TE := fun σ H Q =>
  t σ H fun vs H1 => tk σ H1 fun zs H2 => vs.length = n ∧ zs.length = m ∧ Made C sp E H2 Q fun x => gV (.ref x :: vs) zs
theorem made_len {vs : Addr → List V} (F : Fg X k f fd ps sp) (I : Inv X pins σ H s) (h : Made C sp E H Q vs) :
    ∃ x, (vs x).length = ps.length := by
  have hq := h (s.heap.objs.size + 1) s.heap.objs.size (I.hok.fresh (Nat.le_succ _)) (I.hok.fresh (Nat.le_refl _))
    (Nat.ne_of_lt (Nat.lt_succ_self _))
  exact ⟨_, F.len _ _ _ _ hq⟩
theorem mk1 (M : Mk X.K C f) (F : Fg X k f fd ps sp) (z : RoomG (k + 1) X.A) (hg : Gl X x)
    (hm : X.mg x = some (.ref C)) (hb : BindsD X.K fd ps dvs) (hx : Ps X E) (ha : PA X (e :: es) t)
    (hdb : (x == ("__debug__" : Str)) = false := by decide)
    (he : starEach (e :: es) X.env = (false, eval e X.env) :: starEach es X.env := by rfl)
    (hpl : (backTo pos (starEach es X.env)).any (·.1) = false := by rfl) :
    PE X (.Call (.Name x p) (e :: es) [] pos) (tMk C sp dvs E t) := by
  obtain ⟨ds, hd, hb⟩ := hb
  constructor
  intro pins s σ H Q I h
  refine wpAny_Call_Name_kw (ld_glob I hg hm ?_ hdb)
  refine PySem.W.callWith_K (h₀ := X.base) I.ok.mod.kin M.kp ?_ he hpl
  refine thn (ha.run pos pins s σ H _ I h) ?_
  intro us s1 y
  obtain ⟨vs, H1, I1, r, q⟩ := y
  refine ⟨I1.kIn, ?_⟩
  obtain ⟨x0, hl⟩ := made_len F I1 q
  refine runM (us := fun x => .ref x :: (us ++ ds)) M F z hx I1 ?_ q (fun x => .cons rfl (r.append hd))
  intro s2 x2 kin
  refine hb s2 (.ref x2 :: us) kin ?_
  rw [← hl]
  have e1 := r.length
  have e2 := hd.length
  simp only [List.length_cons, List.length_append, List.cons_append] at *
  omega
theorem mk0 (M : Mk X.K C f) (F : Fg X k f fd ps sp) (z : RoomG (k + 1) X.A) (hg : Gl X x)
    (hm : X.mg x = some (.ref C)) (hb : BindsD X.K fd ps dvs) (hx : Ps X E)
    (hdb : (x == ("__debug__" : Str)) = false := by decide) :
    PE X (.Call (.Name x p) [] [] pos) (tMk C sp dvs E tNil) := by
  obtain ⟨ds, hd, hb⟩ := hb
  constructor
  intro pins s σ H Q I h
  refine wpAny_Call_Name_kw (ld_glob I hg hm ?_ hdb)
  refine PySem.W.callWith_K0 I.kIn M.kp ?_
  obtain ⟨x0, hl⟩ := made_len F I h
  refine runM (us0 := []) (us := fun x => .ref x :: ([] ++ ds)) M F z hx I ?_ h (fun x => .cons rfl (Vals.append .nil hd))
  intro s2 x2 kin
  refine hb s2 [.ref x2] kin ?_
  rw [← hl]
  have e2 := hd.length
  simp only [List.length_cons, List.length_append, List.cons_append, List.length_nil, List.nil_append] at *
  omega
theorem mkK (M : Mk X.K C f) (F : Fg X k f fd ps sp) (z : RoomG (k + 1) X.A) (hg : Gl X x)
    (hm : X.mg x = some (.ref C)) (hb : KBnD X.K fd ps (n + 1) ks gV) (hx : Ps X E) (ha : PA X (e :: es) t)
    (hkw : PK X kws tk)
    (hall : (backToKw pos (keywordEach kws X.env)).all (·.1.isSome) = true := by rfl)
    (hks : (backToKw pos (keywordEach kws X.env)).filterMap (·.1) = ks := by rfl)
    (hdb : (x == ("__debug__" : Str)) = false := by decide)
    (he : starEach (e :: es) X.env = (false, eval e X.env) :: starEach es X.env := by rfl)
    (hpl : ((backTo pos (starEach (e :: es) X.env)).any (·.1) ||
      (backToKw pos (keywordEach kws X.env)).any (·.1.isNone)) = false := by rfl) :
    PE X (.Call (.Name x p) (e :: es) kws pos) (tMkK C n ks.length sp gV E t tk) := by
  obtain ⟨g, hb⟩ := hb
  constructor
  intro pins s σ H Q I h
  refine wpAny_Call_Name_kw (ld_glob I hg hm ?_ hdb)
  refine PySem.W.callWith_KW (h₀ := X.base) I.ok.mod.kin M.kp hall ?_ hpl he
  refine thn (ha.run pos pins s σ H _ I h) ?_
  intro us s1 y
  obtain ⟨vs, H1, I1, r, q⟩ := y
  refine thn (hkw.run pos pins s1 σ H1 _ I1 q) ?_
  intro ws s2 y
  obtain ⟨zs, H2, I2, rz, l1, l2, q2⟩ := y
  refine ⟨I2.kIn, ?_⟩
  rw [hks]
  refine runM (us := fun x => g (.ref x :: us) ws) M F z hx I2 ?_ q2 (fun x => hb.rel (.cons rfl r) rz)
  intro s3 x3 kin
  refine hb.to s3 (.ref x3 :: us) ws kin ?_ (rz.length.symm.trans l2)
  rw [List.length_cons, ← r.length, l1]
theorem mkK0 (M : Mk X.K C f) (F : Fg X k f fd ps sp) (z : RoomG (k + 1) X.A) (hg : Gl X x)
    (hm : X.mg x = some (.ref C)) (hb : KBnD X.K fd ps 1 ks gV) (hx : Ps X E)
    (hkw : PK X kws tk)
    (hall : (backToKw pos (keywordEach kws X.env)).all (·.1.isSome) = true := by rfl)
    (hks : (backToKw pos (keywordEach kws X.env)).filterMap (·.1) = ks := by rfl)
    (hdb : (x == ("__debug__" : Str)) = false := by decide)
    (hpl : ((backTo pos (starEach [] X.env)).any (·.1) ||
      (backToKw pos (keywordEach kws X.env)).any (·.1.isNone)) = false := by rfl) :
    PE X (.Call (.Name x p) [] kws pos) (tMkK C 0 ks.length sp gV E tNil tk) := by
  obtain ⟨g, hb⟩ := hb
  constructor
  intro pins s σ H Q I h
  refine wpAny_Call_Name_kw (ld_glob I hg hm ?_ hdb)
  refine PySem.W.callWith_KW0 (h₀ := X.base) I.ok.mod.kin M.kp hall ?_ hpl
  refine thn (hkw.run pos pins s σ H _ I h) ?_
  intro ws s2 y
  obtain ⟨zs, H2, I2, rz, l1, l2, q2⟩ := y
  refine ⟨I2.kIn, ?_⟩
  rw [hks]
  refine runM (us0 := []) (us := fun x => g [.ref x] ws) M F z hx I2 ?_ q2 (fun x => hb.rel (.cons rfl .nil) rz)
  intro s3 x3 kin
  exact hb.to s3 [.ref x3] ws kin rfl (rz.length.symm.trans l2)
end
section
variable {P : Program} {w : World} {K : PySem.W.Frag} {mg : Str → Option Value} {base : Heap}
theorem okD {x qual : Str} {params : Arguments} {body : List Stmt} {scope : Scope} {dvs : List V} {kws : List (Str × V)}
    {f : Addr} {fd : FuncData} {N ps : List Str} {k : Nat} {sp : Sp}
    (F : FunD K x qual params body scope dvs kws f fd) (S : FnScope N ps scope)
    (len : ∀ vs H Q E, sp vs H Q E → vs.length = ps.length)
    (hb : ∀ (cdv : Value) (A : Around) (outer : List Env) (s : Shared) (H : Hp) (vs : List V)
      (Q : VK) (E : XK), RoomG k (A.deeper (envOfC qual scope s.heap.objs.size f cdv)) →
      sp vs H Q E →
      ∃ t, PSs (cxOf (L2.CX P w) P w K mg base N qual scope f cdv A outer s H E) body t ∧
        t { nx := fun _ H' => Q .non H', rt := Q } (start N vs) H) :
    FnG P w K mg base (k + 1) f fd ps sp := by
  obtain ⟨oc, od, dV, kV, doc, pm, an, cdv, ct, osl, rfl, lk, hcd, _, _⟩ := F.ex
  exact FnG.body lk hcd S len fun A outer s H vs Q E z h => hb cdv A outer s H vs Q E z h
end
/-! readings of these -/
section
variable {K : PySem.W.Frag} {σ : L2.St} {H : Hp} {Q : VK} {D : Ends} {a C dx p : Addr} {fs : List (Str × V)} {f m : Str} {v : V}
variable {ta tv : TE} {t tk : TA} {sp : Sp} {E : XK} {vs zs : List V} {gV : List V → List V → List V} {n k : Nat}
def MethR (C : Addr) (m : Str) (sp : Sp) (E : XK) (t : TA) (σ : L2.St) (x : V) (H1 : Hp) (Q : VK) : Prop :=
  ∃ a dx fs, x = .ref a ∧ H1 a = some (.ins C dx fs) ∧ fs.lookup m = none ∧ t σ H1 fun vs H2 => sp (x :: vs) H2 Q E
theorem i_meth (h : ta σ H fun x H1 => MethR C m sp E t σ x H1 Q) : tMeth C m sp [] E ta t σ H Q := by
  unfold tMeth
  simp only [List.append_nil]
  exact h
instance red_i_meth  : Red (tMeth C m sp [] E ta t σ H Q) (ta σ H fun x H1 => MethR C m sp E t σ x H1 Q) := ⟨i_meth⟩
theorem i_methR (ho : H a = some (.ins C dx fs)) (hl : fs.lookup m = none)
    (h : t σ H fun vs H2 => sp (.ref a :: vs) H2 Q E) : MethR C m sp E t σ (.ref a) H Q := ⟨a, dx, fs, rfl, ho, hl, h⟩
def MethW (C : Addr) (nm : Str) (n m : Nat) (sp : Sp) (gV : List V → List V → List V) (E : XK) (t tk : TA) (σ : L2.St) (x : V)
    (H1 : Hp) (Q : VK) : Prop := ∃ a dx fs, x = .ref a ∧ H1 a = some (.ins C dx fs) ∧ fs.lookup nm = none ∧
    t σ H1 fun vs H2 => tk σ H2 fun zs H3 => vs.length = n ∧ zs.length = m ∧ sp (gV (x :: vs) zs) H3 Q E
theorem i_methW (h : ta σ H fun x H1 => MethW C m n k sp gV E t tk σ x H1 Q) : tMw C m n k sp gV E ta t tk σ H Q := h
instance red_i_methW  : Red (tMw C m n k sp gV E ta t tk σ H Q) (ta σ H fun x H1 => MethW C m n k sp gV E t tk σ x H1 Q) := ⟨i_methW⟩
theorem i_methWR (ho : H a = some (.ins C dx fs)) (hl : fs.lookup m = none)
    (h : t σ H fun vs H2 => tk σ H2 fun zs H3 => vs.length = n ∧ zs.length = k ∧ sp (gV (.ref a :: vs) zs) H3 Q E) :
    MethW C m n k sp gV E t tk σ (.ref a) H Q := ⟨a, dx, fs, rfl, ho, hl, h⟩
theorem i_lens {P : Prop} (h1 : vs.length = n) (h2 : zs.length = k) (h : P) : vs.length = n ∧ zs.length = k ∧ P := ⟨h1, h2, h⟩
theorem i_kw (h : t σ H fun vs H1 => tk σ H1 fun zs H2 => vs.length = n ∧ zs.length = k ∧ sp (gV vs zs) H2 Q E) :
    tKw n k sp gV E t tk σ H Q := h
instance red_i_kw  : Red (tKw n k sp gV E t tk σ H Q) (t σ H fun vs H1 => tk σ H1 fun zs H2 => vs.length = n ∧ zs.length = k ∧ sp (gV vs zs) H2 Q E) := ⟨i_kw⟩
theorem i_mk (h : t σ H fun vs H1 => Made C sp E H1 Q fun x => .ref x :: vs) : tMk C sp [] E t σ H Q := by
  unfold tMk
  simp only [List.append_nil]
  exact h
instance red_i_mk  : Red (tMk C sp [] E t σ H Q) (t σ H fun vs H1 => Made C sp E H1 Q fun x => .ref x :: vs) := ⟨i_mk⟩
theorem i_mkD {dvs : List V} (h : t σ H fun vs H1 => Made C sp E H1 Q fun x => .ref x :: (vs ++ dvs)) : tMk C sp dvs E t σ H Q := h
instance (priority := 900) red_i_mkD {dvs : List V} : Red (tMk C sp dvs E t σ H Q) (t σ H fun vs H1 => Made C sp E H1 Q fun x => .ref x :: (vs ++ dvs)) := ⟨i_mkD⟩
theorem i_mkK (h : t σ H fun vs H1 => tk σ H1 fun zs H2 => vs.length = n ∧ zs.length = k ∧
    Made C sp E H2 Q fun x => gV (.ref x :: vs) zs) : tMkK C n k sp gV E t tk σ H Q := h
instance red_i_mkK  : Red (tMkK C n k sp gV E t tk σ H Q) (t σ H fun vs H1 => tk σ H1 fun zs H2 => vs.length = n ∧ zs.length = k ∧
    Made C sp E H2 Q fun x => gV (.ref x :: vs) zs) := ⟨i_mkK⟩
/-- an attribute -/
def FldR (K : PySem.W.Frag) (f : Str) (x : V) (H1 : Hp) (Q : VK) : Prop := ∃ a C dx fs v, x = .ref a ∧
  H1 a = some (.ins C dx fs) ∧ Cls K C ∧ NoAttr K C f ∧ fs.lookup f = some v ∧ Q v H1
theorem i_fld (h : ta σ H fun x H1 => FldR K f x H1 Q) : tFld K ta f σ H Q := h
instance red_i_fld  : Red (tFld K ta f σ H Q) (ta σ H fun x H1 => FldR K f x H1 Q) := ⟨i_fld⟩
theorem i_fldR (ho : H a = some (.ins C dx fs)) (c : Cls K C) (n : NoAttr K C f) (hl : fs.lookup f = some v)
    (h : Q v H) : FldR K f (.ref a) H Q := ⟨a, C, dx, fs, v, rfl, ho, c, n, hl, h⟩
def FldS (K : PySem.W.Frag) (f : Str) (y x : V) (D : Ends) (σ : L2.St) (H2 : Hp) : Prop := ∃ a C dx fs, x = .ref a ∧
  H2 a = some (.ins C dx fs) ∧ Cls K C ∧ NoAttr K C f ∧ fs.length < 1000 ∧ D.nx σ (upd H2 a (.ins C dx (putF f y fs)))
theorem i_fldS (h : tv σ H fun y H1 => ta σ H1 fun x H2 => FldS K f y x D σ H2) : sFld K ta tv f D σ H := h
instance red_i_fldS  : Red (sFld K ta tv f D σ H) (tv σ H fun y H1 => ta σ H1 fun x H2 => FldS K f y x D σ H2) := ⟨i_fldS⟩
theorem i_fldSR {y : V} (ho : H a = some (.ins C dx fs)) (c : Cls K C) (n : NoAttr K C f) (hl : fs.length < 1000)
    (h : D.nx σ (upd H a (.ins C dx (putF f y fs)))) : FldS K f y (.ref a) D σ H := ⟨a, C, dx, fs, rfl, ho, c, n, hl, h⟩
end
end G
namespace G
open PySem PySem.Spec PyProof.Rows L2
/-! the facts of the top -/
section
variable {K : PySem.W.Frag} {x qual : Str} {st : Stmt} {f D : Addr} {oc : Value} {od an : Option Addr} {osl : Array (Option Value)}
variable {kV doc pm cdv ct : Value} {ps : List Str}
theorem fund0 (l : K.lookup f = some ⟨oc, od, .func (PySem.W.fnOf x qual (defArgs st) (defBody st)
      (defScope st) .none kV doc pm an cdv ct), osl⟩)
    (c : PySem.W.codeIn K cdv qual = true) (k : PySem.W.keepIn K (.ref f) = true) :
    FunD K x qual (defArgs st) (defBody st) (defScope st) [] [] f
      (PySem.W.fnOf x qual (defArgs st) (defBody st) (defScope st) .none kV doc pm an cdv ct) :=
  ⟨⟨oc, od, .none, kV, doc, pm, an, cdv, ct, osl, rfl, l, c, .inl ⟨rfl, rfl⟩, .inl rfl⟩, k⟩
theorem fund1 {kws : List (Str × V)} (l : K.lookup f = some ⟨oc, od, .func (PySem.W.fnOf x qual (defArgs st) (defBody st)
      (defScope st) .none (.ref D) doc pm an cdv ct), osl⟩)
    (c : PySem.W.codeIn K cdv qual = true) (k : PySem.W.keepIn K (.ref f) = true)
    (q : ∀ q ∈ kws, ∃ u, PySem.W.nsIn K D q.1 = some (some u) ∧ RelV q.2 u) :
    FunD K x qual (defArgs st) (defBody st) (defScope st) [] kws f
      (PySem.W.fnOf x qual (defArgs st) (defBody st) (defScope st) .none (.ref D) doc pm an cdv ct) :=
  ⟨⟨oc, od, .none, .ref D, doc, pm, an, cdv, ct, osl, rfl, l, c, .inl ⟨rfl, rfl⟩, .inr ⟨D, rfl, q⟩⟩, k⟩
theorem kw_one {nm : Str} {v : V} {u : Value} (e : PySem.W.nsIn K D nm = some (some u)) (r : RelV v u) :
    ∀ q ∈ [(nm, v)], ∃ u, PySem.W.nsIn K D q.1 = some (some u) ∧ RelV q.2 u := fun q hq => by
  rw [List.mem_singleton.mp hq]
  exact ⟨u, e, r⟩
theorem kw_more {nm : Str} {v : V} {u : Value} {l : List (Str × V)} (e : PySem.W.nsIn K D nm = some (some u)) (r : RelV v u)
    (h : ∀ q ∈ l, ∃ u, PySem.W.nsIn K D q.1 = some (some u) ∧ RelV q.2 u) :
    ∀ q ∈ (nm, v) :: l, ∃ u, PySem.W.nsIn K D q.1 = some (some u) ∧ RelV q.2 u := fun q hq => by
  rcases List.mem_cons.mp hq with z | z
  · rw [z]
    exact ⟨u, e, r⟩
  · exact h q z
/-- positional values, then by places of what the keywords and the defaults give -/
def gp (idx : List Nat) {α : Type} (vs mz zs : List α) : List α := vs ++ idx.filterMap fun i => (zs ++ mz)[i]?
theorem vals_idx {vs : List V} {us : List Value} (r : Vals vs us) : ∀ idx : List Nat,
    Vals (idx.filterMap fun i => vs[i]?) (idx.filterMap fun i => us[i]?)
  | [] => .nil
  | i :: idx => by
    have ih := vals_idx r idx
    cases e : vs[i]? with
    | none =>
      have e2 := Vals.none_of r e
      rw [List.filterMap_cons_none e, List.filterMap_cons_none e2]
      exact ih
    | some v =>
      obtain ⟨u, e2, q⟩ := Vals.get r e
      rw [List.filterMap_cons_some e, List.filterMap_cons_some e2]
      exact .cons q ih
theorem gp_rel (idx : List Nat) {vs mz zs : List V} {us mv ws : List Value} (r : Vals vs us) (r1 : Vals mz mv) (r2 : Vals zs ws) :
    Vals (gp idx vs mz zs) (gp idx us mv ws) := r.append (vals_idx (r2.append r1) idx)
variable {params : Arguments} {body : List Stmt} {scope : Scope} {fd : FuncData} {kws : List (Str × V)}
theorem bindN (F : FunD K x qual params body scope [] [] f fd)
    (h : ∀ (kV doc pm : Value) (an : Option Addr) (cdv ct : Value) (us : List Value), us.length = ps.length →
      bindArgs (PySem.W.fnOf x qual params body scope .none kV doc pm an cdv ct) ⟨us, []⟩ = pure (ps.zip us)) :
    BindsD K fd ps [] := BindsD.plain (F.bindsN h)
theorem bindK (F : FunD K x qual params body scope [] kws f fd) (n : Nat) (hk : kws ≠ []) (hn : n + kws.length = ps.length)
    (h : ∀ (D : Addr) (doc pm : Value) (an : Option Addr) (cdv ct : Value) (us ks : List Value), us.length = n →
      ks.length = kws.length → KwChain D ((kws.map (·.1)).zip ks)
        (bindArgs (PySem.W.fnOf x qual params body scope .none (.ref D) doc pm an cdv ct) ⟨us, []⟩) (ps.zip (us ++ ks))) :
    BindsD K fd ps (kws.map (·.2)) := F.binds0 n hk hn h
theorem kbN (F : FunD K x qual params body scope [] [] f fd) (n : Nat) (ks : List Str) (idx : List Nat)
    (h : ∀ (kV doc pm : Value) (an : Option Addr) (cdv ct : Value) (us ws : List Value), us.length = n →
      ws.length = ks.length → bindArgs (PySem.W.fnOf x qual params body scope .none kV doc pm an cdv ct) ⟨us, ks.zip ws⟩ =
        pure (ps.zip (gp idx us [] ws))) : KBnD K fd ps n ks (fun vs zs => gp idx vs [] zs) := by
  refine ⟨fun us ws => gp idx us [] ws, ?_, fun r1 r2 => gp_rel idx r1 .nil r2⟩
  intro s us ws kin l1 l2
  obtain ⟨oc, od, dV, kV, doc, pm, an, cdv, ct, osl, rfl, lk, hcd, hD, hK⟩ := F.ex
  rcases hD with ⟨_, rfl⟩ | ⟨e, _⟩
  · exact .of_eq (h kV doc pm an cdv ct us ws l1 l2)
  · exact absurd rfl e
theorem kbK (F : FunD K x qual params body scope [] kws f fd) (n : Nat) (ks : List Str) (ms : List (Str × V)) (idx : List Nat)
    (hk : kws ≠ []) (hms : ∀ q ∈ ms, q ∈ kws)
    (h : ∀ (D : Addr) (doc pm : Value) (an : Option Addr) (cdv ct : Value) (us mv ws : List Value), us.length = n →
      mv.length = ms.length → ws.length = ks.length → KwChain D ((ms.map (·.1)).zip mv)
        (bindArgs (PySem.W.fnOf x qual params body scope .none (.ref D) doc pm an cdv ct) ⟨us, ks.zip ws⟩)
        (ps.zip (gp idx us mv ws))) : KBnD K fd ps n ks (fun vs zs => gp idx vs (ms.map (·.2)) zs) := by
  obtain ⟨mv, h⟩ := F.kbinds0 n ks ms (fun vs mz zs => gp idx vs mz zs) hk hms (fun r r1 r2 => gp_rel idx r r1 r2) h
  exact ⟨_, h⟩
end
end G
namespace G
open PySem PySem.Spec PyProof.Rows L2
section
variable {X : Cx} {K : PySem.W.Frag} {k n : Nat} {f C : Addr} {fd : FuncData} {ps : List Str} {sp : Sp}
variable {dvs : List V} {E : XK} {x m : Str} {p pos pos' : Pos} {e o value : Expr} {fl : Str} {ta tv : TE}
theorem d0 (F : Fg X k f fd ps sp) (z : RoomG k X.A) (hg : Gl X x) (hm : X.mg x = some (.ref f))
    (hk : PySem.W.keepIn X.K (.ref f) = true) (hb : BindsD X.K fd ps dvs)
    (hx : Ps X E) (hdb : (x == ("__debug__" : Str)) = false := by decide) :
    PE X (.Call (.Name x p) [] [] pos) (tCall sp dvs E tNil) := by
  obtain ⟨ds, hd, hb⟩ := hb
  exact c0 F z hg hm hk hb hd hx hdb
theorem k_sfld (h : X.K = K) (ha : PE X o ta) (hv : PE X value tv)
    (hs : swapsWith value (some (.Attribute o fl pos')) pos.line X.env = pure false) :
    PS X (.Assign [.Attribute o fl pos'] value pos) (sFld K ta tv fl) := h ▸ ps_fld ha hv hs
theorem k_pzip {e2 : Expr} {t : TA} {tpos : Pos} {elts : List Expr} {kk : Nat} (h : X.K = K) (hg : Gl X "zip") (hm : X.mg "zip" = none)
    (ha : PA X [e, e2] t) (hs : starEach [e, e2] X.env = (false, eval e X.env) :: starEach [e2] X.env := by rfl)
    (hpl : (backTo pos (starEach [e2] X.env)).any (·.1) = false := by rfl) :
    PI X (.Tuple elts kk tpos) (.Call (.Name "zip" p) [e, e2] [] pos) (iZip K t) := h ▸ pi_zip hg hm ha hs hpl
end
section
variable {K : PySem.W.Frag} {σ : L2.St} {H H1 : Hp} {Q : VK} {D : Ends} {tb : TS} {te : TE} {tt : TT} {g : TG}
variable {a b p q l C dx : Addr} {xs ys vs us : List V} {v x y : V} {fs : List (Str × V)} {f m : Str} {t ta : TE} {tr : TA} {sp : Sp} {E : XK}
variable {dvs : List V} {vn : List Nat}
theorem i_methD {t : TA} (h : ta σ H fun x H1 => MethR C m sp E (fun σ H Q => t σ H fun vs H' => Q (vs ++ dvs) H') σ x H1 Q) :
    tMeth C m sp dvs E ta t σ H Q := h
instance (priority := 900) red_i_methD {t : TA} : Red (tMeth C m sp dvs E ta t σ H Q) (ta σ H fun x H1 => MethR C m sp E (fun σ H Q => t σ H fun vs H' => Q (vs ++ dvs) H') σ x H1 Q) := ⟨i_methD⟩
theorem i_isNn (h : Q (.bl true) H) : rIsN .non .non H Q := ⟨rfl, h⟩
instance red_i_isNn  : Red (rIsN .non .non H Q) (Q (.bl true) H) := ⟨i_isNn⟩
theorem i_isNr (h : Q (.bl false) H) : rIsN (.ref a) .non H Q := ⟨rfl, h⟩
instance red_i_isNr  : Red (rIsN (.ref a) .non H Q) (Q (.bl false) H) := ⟨i_isNr⟩
theorem i_isNi {n : Int} (h : Q (.bl false) H) : rIsN (.int n) .non H Q := ⟨rfl, h⟩
instance red_i_isNi {n : Int} : Red (rIsN (.int n) .non H Q) (Q (.bl false) H) := ⟨i_isNi⟩
theorem i_notNn (h : Q (.bl false) H) : rNotN .non .non H Q := ⟨rfl, h⟩
instance red_i_notNn  : Red (rNotN .non .non H Q) (Q (.bl false) H) := ⟨i_notNn⟩
theorem i_notNr (h : Q (.bl true) H) : rNotN (.ref a) .non H Q := ⟨rfl, h⟩
instance red_i_notNr  : Red (rNotN (.ref a) .non H Q) (Q (.bl true) H) := ⟨i_notNr⟩
theorem i_notNi {n : Int} (h : Q (.bl true) H) : rNotN (.int n) .non H Q := ⟨rfl, h⟩
instance red_i_notNi {n : Int} : Red (rNotN (.int n) .non H Q) (Q (.bl true) H) := ⟨i_notNi⟩
/-- a for over zip of two lists -/
def ForZ (K : PySem.W.Frag) (ws : List V) (g : TG) (tb : TS) (D : Ends) (σ : L2.St) (H : Hp) : Prop :=
  ∃ a b xs ys, ws = [.ref a, .ref b] ∧ SqL K H a xs ∧ SqL K H b ys ∧ ∃ W : Nat → Nat → L2.St → Hp → Prop,
    (∃ m, W 0 m σ H) ∧ ∀ i m σ H, W i m σ H → ((Itz K a b).stop i H ∧ D.nx σ H) ∨
      ((Itz K a b).go i H ∧ ∃ Nx : L2.St → Hp → Prop,
        (∀ σ' H', Nx σ' H' → ∃ m', m' < m ∧ W (i + 1) m' σ' H') ∧
        ∀ x H', (Itz K a b).yld i H x H' → g x σ H' fun σ2 H2 =>
          tb { D with nx := Nx, ct := Nx, bk := D.nx } σ2 H2)
theorem i_forZ (h : tr σ H fun ws H1 => ForZ K ws g tb D σ H1) : tFor (iZip K tr) g tb D σ H := h
instance red_i_forZ  : Red (tFor (iZip K tr) g tb D σ H) (tr σ H fun ws H1 => ForZ K ws g tb D σ H1) := ⟨i_forZ⟩
theorem i_both (hx : SqL K H a xs) (hy : SqL K H b ys) (Pv : Nat → L2.St → Hp → Prop) (h0 : Pv 0 σ H)
    (hl : ∀ i σ H, Pv i σ H → SqL K H a xs ∧ SqL K H b ys)
    (st : ∀ i x y T σ H, xs[i]? = some x → ys[i]? = some y → Pv i σ H → Fr H T → g (.ref T) σ (upd H T (.tup [x, y])) fun σ2 H2 =>
      tb { D with nx := Pv (i + 1), ct := Pv (i + 1), bk := D.nx } σ2 H2)
    (hd : ∀ σ H, Pv (min xs.length ys.length) σ H → D.nx σ H) : ForZ K [.ref a, .ref b] g tb D σ H := by
  refine ⟨a, b, xs, ys, rfl, hx, hy, fun i m σ H => m = min xs.length ys.length - i ∧ i ≤ min xs.length ys.length ∧ Pv i σ H,
    ⟨_, rfl, Nat.zero_le _, h0⟩, ?_⟩
  rintro i m σ H ⟨rfl, hi, z⟩
  obtain ⟨qx, qy⟩ := hl i σ H z
  by_cases c : i < min xs.length ys.length
  · have c1 : i < xs.length := by omega
    have c2 : i < ys.length := by omega
    refine .inr ⟨⟨xs, ys, _, _, qx, qy, List.getElem?_eq_getElem c1, List.getElem?_eq_getElem c2⟩, Pv (i + 1),
      fun σ' H' w => ⟨_, by omega, rfl, by omega, w⟩, ?_⟩
    rintro v H' ⟨T, x', y', rfl, hT, rfl, f1, f2⟩
    exact st i x' y' T σ H (f1 xs qx) (f2 ys qy) z ⟨hT⟩
  · have e : i = min xs.length ys.length := by omega
    refine .inl ⟨⟨xs, ys, qx, qy, by omega⟩, hd σ H (by rw [← e]; exact z)⟩
/-- a comprehension over zip of two lists -/
def LcZ (K : PySem.W.Frag) (ws : List V) (g : TG) (tt : TT) (te : TE) (vs : List Nat) (σ : L2.St) (H1 : Hp) (Q : VK) : Prop :=
  ∃ a b xs ys, ws = [.ref a, .ref b] ∧ SqL K H1 a xs ∧ SqL K H1 b ys ∧ ∀ D, H1 D = none →
    ∃ W : Nat → Nat → Hp → Prop, (∃ m, W 0 m (upd H1 D (.lst []))) ∧ ∀ i m H, W i m H →
      ((Itz K a b).stop i H ∧ Q (.ref D) H) ∨ ((Itz K a b).go i H ∧ ∃ Nx : Hp → Prop,
        (∀ H', Nx H' → ∃ m', m' < m ∧ W (i + 1) m' H') ∧
        ∀ x H', (Itz K a b).yld i H x H' → g x (wipe σ vs) H' fun σ2 H2 => wipe σ2 vs = wipe σ vs ∧ tt σ2 H2 fun b H3 =>
          if b = true then te σ2 H3 fun y H4 => ∃ acc, H4 D = some (.lst acc) ∧ acc.length < sizeLine ∧
            Nx (upd H4 D (.lst (acc ++ [y]))) else Nx H3)
theorem i_lcZ (h : tr σ H fun ws H1 => LcZ K ws g tt te vn σ H1 Q) : tLc (iZip K tr) g tt te vn σ H Q := h
instance red_i_lcZ  : Red (tLc (iZip K tr) g tt te vn σ H Q) (tr σ H fun ws H1 => LcZ K ws g tt te vn σ H1 Q) := ⟨i_lcZ⟩
theorem i_eltz (hx : SqL K H a xs) (hy : SqL K H b ys) (Pv : Addr → Nat → Hp → Prop)
    (h0 : ∀ D, Fr H D → Pv D 0 (upd H D (.lst [])))
    (hl : ∀ D i H', Fr H D → Pv D i H' → SqL K H' a xs ∧ SqL K H' b ys)
    (st : ∀ D i x y T H', Fr H D → xs[i]? = some x → ys[i]? = some y → Pv D i H' → Fr H' T →
      g (.ref T) (wipe σ vn) (upd H' T (.tup [x, y])) fun σ2 H2 =>
      wipe σ2 vn = wipe σ vn ∧ tt σ2 H2 fun b H3 => if b = true then te σ2 H3 fun y H4 =>
        ∃ acc, H4 D = some (.lst acc) ∧ acc.length < sizeLine ∧ Pv D (i + 1) (upd H4 D (.lst (acc ++ [y])))
        else Pv D (i + 1) H3)
    (hd : ∀ D H', Fr H D → Pv D (min xs.length ys.length) H' → Q (.ref D) H') : LcZ K [.ref a, .ref b] g tt te vn σ H Q := by
  refine ⟨a, b, xs, ys, rfl, hx, hy, fun D hD => ⟨fun i m H => m = min xs.length ys.length - i ∧ i ≤ min xs.length ys.length ∧ Pv D i H,
    ⟨_, rfl, Nat.zero_le _, h0 D ⟨hD⟩⟩, ?_⟩⟩
  rintro i m H ⟨rfl, hi, z⟩
  obtain ⟨qx, qy⟩ := hl D i H ⟨hD⟩ z
  by_cases c : i < min xs.length ys.length
  · have c1 : i < xs.length := by omega
    have c2 : i < ys.length := by omega
    refine .inr ⟨⟨xs, ys, _, _, qx, qy, List.getElem?_eq_getElem c1, List.getElem?_eq_getElem c2⟩, Pv D (i + 1),
      fun H' w => ⟨_, by omega, rfl, by omega, w⟩, ?_⟩
    rintro v H' ⟨T, x', y', rfl, hT, rfl, f1, f2⟩
    exact st D i x' y' T H ⟨hD⟩ (f1 xs qx) (f2 ys qy) z ⟨hT⟩
  · have e : i = min xs.length ys.length := by omega
    refine .inl ⟨⟨xs, ys, qx, qy, by omega⟩, hd D H ⟨hD⟩ (by rw [← e]; exact z)⟩
/-- [v] * n -/
theorem i_rep {n : Int} (h : H l = some (.lst [v])) (h0 : 0 ≤ n) (h1 : n ≤ 1000000)
    (q : New H fun p => Q (.ref p) (upd H p (.lst (List.replicate n.toNat v)))) : rRep (.ref l) (.int n) H Q := by
  refine ⟨l, n, [v], rfl, rfl, h, by omega, by omega, ?_, fun p hp => ?_⟩
  · have e : ([v] : List V).length * n.toNat ≤ 1000000 := by
      rw [List.length_singleton]
      omega
    exact Nat.le_trans e (by decide)
  · have e : (List.replicate n.toNat [v]).flatten = List.replicate n.toNat v := by
      induction n.toNat with
      | zero => rfl
      | succ k ih => rw [List.replicate_succ, List.flatten_cons, ih, List.replicate_succ]; rfl
    rw [e]
    exact q p hp
/-- an object's entry -/
theorem Kp.upi {ws : List Addr} {H0 H1 : Hp} (k : Kp ws H0 H1) (h : H1 p = some (.ins C dx fs)) (hp : p ∈ ws) {o : HO} : Kp ws H0 (L2.upd H1 p o) :=
  k.trans (Kp.mut h (fun z => z) hp)
end
/-! ### runs and cells -/
def cells (ps : List (Int × Int)) : List Int := ps.flatMap fun p => List.replicate p.1.toNat p.2
def tag (c : Int) : Int × Int := (1, c)
end G
namespace G
open PySem PySem.Spec PyProof.Rows L2
section
variable {K : PySem.W.Frag} {σ : L2.St} {H H1 : Hp} {Q : VK} {a b p q l m C dx : Addr} {xs ys : List V} {fs : List (Str × V)} {o : HO}
variable {ds : List PyData} {ws : List Addr}
theorem i_addL (hx : H a = some (.lst xs)) (hy : H b = some (.lst ys)) (hz : xs.length + ys.length ≤ 1000000)
    (h : New H fun p => Q (.ref p) (upd H p (.lst (xs ++ ys)))) : uAdd K (.ref a) (.ref b) H Q :=
  .inr (.inr (.inl ⟨a, b, xs, ys, rfl, rfl, hx, hy, Nat.le_trans hz (by decide), h⟩))
theorem ld_ins (h : LD K H l ds) (hi : imms ds = true) (hq : H q = some (.ins C dx fs)) : LD K (upd H q o) l ds := by
  have k : Kp [q] H (L2.upd H q o) := Kp.mut hq (fun z => z) List.mem_cons_self
  refine h.kp k hi (not_one ?_)
  obtain ⟨vs, e, _⟩ := h
  intro z
  rw [z, hq] at e
  cases e
end
end G
namespace G
open L2 PySem
theorem fs_few {fs : List (Str × V)} (h : fs.length.blt 1000 = true) : fs.length < 1000 := by
  rw [Nat.blt_eq] at h
  exact h
end G
namespace G
open L2 PySem
theorem ld_push {K : PySem.W.Frag} {H0 H1 : Hp} {l : Addr} {vs : List V} {y : V} {ds : List PyData} {d : PyData} {ws : List Addr}
    (kp : Kp ws H0 H1) (h : DpAll K H0 vs ds) (hi : imms ds = true) (hv : H1 l = some (.lst (vs ++ [y]))) (hd : Dp K H1 y d) :
    LD K H1 l (ds ++ [d]) := ⟨_, hv, dpa_app (dpa_imm kp _ _ hi h) (dpa_one hd)⟩
end G
namespace G
open PySem PySem.Spec PyProof.Rows L2
/-! slices: read and written -/
section
variable {X : Cx} {o : Expr} {lo hi : Option Expr} {to : TE} {tl th : TO} {pos p2 : Pos}
def CutS (x : V) (i j : Option Int) (v : V) (H : Hp) (P : Hp → Prop) : Prop := ∃ l b xs ys a c, x = .ref l ∧ v = .ref b ∧
  i = some a ∧ j = some c ∧ H l = some (.lst xs) ∧ H b = some (.lst ys) ∧ l ≠ b ∧ 0 ≤ a ∧ a ≤ c ∧ c ≤ xs.length ∧
  xs.length + ys.length ≤ sizeLine ∧ P (upd H l (.lst (xs.take a.toNat ++ ys ++ xs.drop c.toNat)))
def gCut (to : TE) (tl th : TO) : TG := fun v σ H S => to σ H fun x H1 => tl σ H1 fun i H2 => th σ H2 fun j H3 =>
  CutS x i j v H3 fun H4 => S σ H4
theorem pg_cut (ho : PE X o to) (hl : PO X lo tl) (hu : PO X hi th)
    (ha : ∀ v, assign (.Subscript o (.Slice lo hi none p2) pos) X.env v = (do
      let ov ← holding [v] (eval o X.env)
      let iv ← holding [v, ov] (eval (.Slice lo hi none p2) X.env)
      standAt pos
      holding [v, ov, iv] (setItem ov iv v)
      release [iv, v, ov] []) := by intro _; rfl) :
    PG X (.Subscript o (.Slice lo hi none p2) pos) (gCut to tl th) := by
  constructor
  intro pins s σ H v u Q I r h
  rw [ha]
  refine wpAny_bind (wpAny_holding (thn (ho.run pins s σ H _ I h) ?_))
  rintro ov s1 ⟨x, H1, I1, r1, q1⟩
  refine wpAny_bind (wpAny_holding (PySem.wpAny_Slice (thn (hl.run pins s1 σ H1 _ I1 q1) ?_)))
  rintro vl s2 ⟨i, H2, I2, pl, q2⟩
  refine thn (hu.run pins s2 σ H2 _ I2 q2) ?_
  rintro vu s3 ⟨j, H3, I3, pu, q3⟩
  rw [evalPart_none]
  refine wpAny_pure ?_
  have I4 : Inv X pins σ H3 { s3 with heap := s3.heap.push { cls := .type "slice", data := .fields #[vl, vu, .none] } } :=
    I3.kept (t' := s3.toks) fun b ob z => Heap.get?_push_of_some _ z
  obtain ⟨l, b, xs, ys, a, c, rfl, rfl, rfl, rfl, e1, e2, ne, h0, hac, hc, hz, q⟩ := q3
  cases r1
  cases r
  cases pl
  rename_i ta
  cases pu
  rename_i tc
  refine wpAny_bind (wpAny_standAt (wpAny_bind (wpAny_holding ?_)))
  refine set_slice I4 e1 e2 ne (Heap.IsSliceOf.new ..) ⟨ta, rfl⟩ ⟨tc, rfl⟩ h0 hac hc hz ?_
  intro s5 I5
  exact wpAny_release ⟨σ, _, I5, q⟩
end
section
variable {K : PySem.W.Frag} {σ : L2.St} {H : Hp} {Q : VK} {a b l : Addr} {xs ys : List V} {r : V → Option Int → Option Int → Hp → VK → Prop}
variable {te to : TE} {tl th : TO} {P : Hp → Prop} {S : L2.St → Hp → Prop} {v x : V} {lo hi : Option Int} {R : Option Int → Hp → Prop}
theorem i_gCut (h : to σ H fun x H1 => tl σ H1 fun i H2 => th σ H2 fun j H3 => CutS x i j v H3 fun H4 => S σ H4) :
    gCut to tl th v σ H S := h
instance red_i_gCut  : Red (gCut to tl th v σ H S) (to σ H fun x H1 => tl σ H1 fun i H2 => th σ H2 fun j H3 => CutS x i j v H3 fun H4 => S σ H4) := ⟨i_gCut⟩
theorem i_cutS {i j : Int} (h1 : H l = some (.lst xs)) (h2 : H b = some (.lst ys)) (ne : l ≠ b) (h0 : 0 ≤ i ∧ i ≤ j ∧ j ≤ xs.length)
    (hz : xs.length + ys.length ≤ 1000000) (q : P (upd H l (.lst (xs.take i.toNat ++ ys ++ xs.drop j.toNat)))) :
    CutS (.ref l) (some i) (some j) (.ref b) H P :=
  ⟨l, b, xs, ys, i, j, rfl, rfl, rfl, rfl, h1, h2, ne, h0.1, h0.2.1, h0.2.2, Nat.le_trans hz (by decide), q⟩
theorem i_sl (h : te σ H fun x H1 => tl σ H1 fun l H2 => th σ H2 fun u H3 => r x l u H3 Q) : tSl r te tl th σ H Q := h
instance red_i_sl  : Red (tSl r te tl th σ H Q) (te σ H fun x H1 => tl σ H1 fun l H2 => th σ H2 fun u H3 => r x l u H3 Q) := ⟨i_sl⟩
theorem i_part (h : te σ H fun x H1 => ∃ i, x = .int i ∧ R (some i) H1) : tPart te σ H R := h
instance red_i_part  : Red (tPart te σ H R) (te σ H fun x H1 => ∃ i, x = .int i ∧ R (some i) H1) := ⟨i_part⟩
theorem i_partI {n : Int} {P : Int → Prop} (h : P n) : ∃ i, V.int n = .int i ∧ P i := ⟨n, rfl, h⟩
instance red_i_partI {n : Int} {P : Int → Prop} : Red (∃ i, V.int n = .int i ∧ P i) (P n) := ⟨i_partI⟩
theorem i_noPart (h : R none H) : tNoPart σ H R := h
instance red_i_noPart  : Red (tNoPart σ H R) (R none H) := ⟨i_noPart⟩
theorem i_slL (h : SqL K H a xs) (q : New H fun p => Q (.ref p) (upd H p (.lst (cutV xs lo hi)))) : rSlL K (.ref a) lo hi H Q :=
  ⟨a, xs, rfl, h, q⟩
end
theorem cutV_mid {xs : List V} {i j : Int} (h : 0 ≤ i ∧ i ≤ j ∧ j ≤ xs.length) :
    cutV xs (some i) (some j) = (xs.drop i.toNat).take (j.toNat - i.toNat) := by
  obtain ⟨a, rfl⟩ := Int.eq_ofNat_of_zero_le h.1
  obtain ⟨c, rfl⟩ := Int.eq_ofNat_of_zero_le (Int.le_trans h.1 h.2.1)
  unfold cutV
  rw [HT.sIx_nat, HT.sIx_nat, Int.toNat_natCast, Int.toNat_natCast, Nat.min_eq_left (by omega), Nat.min_eq_left (by omega)]
theorem cutV_tail (x : V) (xs : List V) : cutV (x :: xs) (some 1) none = xs := by
  have e := HT.sIx_nat (x :: xs).length 0 1
  unfold cutV
  rw [show ((1 : Int)) = ((1 : Nat) : Int) from rfl, e, HT.sIx_none, List.length_cons, Nat.min_eq_left (by omega), List.drop_succ_cons, List.drop_zero]
  exact List.take_of_length_le (by omega)
theorem ix_nat {n j : Nat} (h : j < n) : ixN n (j : Int) = some j := by
  unfold ixN
  rw [if_pos (by omega), if_pos (by omega), Int.toNat_natCast]
theorem ix_int {n : Nat} {j : Int} (h0 : 0 ≤ j) (h : j < n) : ixN n j = some j.toNat := by
  unfold ixN
  rw [if_pos h0, if_pos h]
/-- one of two -/
theorem at_two {f : Nat → V} {r : Int} (h0 : 0 ≤ r) (h1 : r < 2) : atI [f 0, f 1] r = some (f r.toNat) := by
  have e : r = 0 ∨ r = 1 := by omega
  rcases e with rfl | rfl <;> rfl
end G
set_option Elab.async false
set_option linter.all false
set_option maxRecDepth 100000
set_option maxHeartbeats 4000000
namespace My
open PySem L2 G
/-! ### exceptions of the text's own classes, with an __init__ of their own -/
section
open PySem.W PySem.Calls PyProof.Rows
/-- what a class of the library gives to a class of the text over it -/
structure Under (B newId initId : String) (tail : List Value) : Prop where
  F : ExcBaseFacts B newId initId tail
  pass : ∀ self, refuseLoop self "__setattr__" tail = pure ()
  ob : tail.contains (.type "object") = true
  ne : tail.isEmpty = false
/-- classes of the text, then the library's -/
def refsOn (tail : List Value) : List Value → Bool
  | .ref _ :: r => refsOn tail r
  | l => l == tail
theorem refsOn_or {tail l : List Value} (h : refsOn tail l = true) : (∃ c r, l = .ref c :: r ∧ refsOn tail r = true) ∨ l = tail := by
  cases l with
  | nil => exact .inr (beq_iff_eq.mp h)
  | cons a r =>
    cases a with
    | ref c => exact .inl ⟨c, r, rfl, h⟩
    | _ => exact .inr (beq_iff_eq.mp h)
theorem Under.pass_all {B newId initId : String} {tail : List Value} (U : Under B newId initId tail) (self : Value) :
    ∀ l : List Value, refsOn tail l = true → refuseLoop self "__setattr__" l = pure () := by
  intro l
  induction l with
  | nil =>
    intro h
    rcases refsOn_or h with ⟨c, r, e, _⟩ | e
    · cases e
    · rw [e]
      exact U.pass self
  | cons a r ih =>
    intro h
    rcases refsOn_or h with ⟨c, r2, e, h2⟩ | e
    · cases e
      rw [refuseLoop_ref]
      exact ih h2
    · rw [e]
      exact U.pass self
theorem Under.has_all {B newId initId : String} {tail : List Value} (U : Under B newId initId tail) (X : String) :
    ∀ l : List Value, refsOn tail l = true → l.contains (.type X) = tail.contains (.type X) := by
  intro l
  induction l with
  | nil =>
    intro h
    rcases refsOn_or h with ⟨c, r, e, _⟩ | e
    · cases e
    · rw [e]
  | cons a r ih =>
    intro h
    rcases refsOn_or h with ⟨c, r2, e, h2⟩ | e
    · cases e
      rw [List.contains_cons, ih h2]
      rfl
    · rw [e]
theorem under_RuntimeError : Under "RuntimeError" "RuntimeError.__new__" "RuntimeError.__init__" [.type "RuntimeError", .type "Exception", .type "BaseException", .type "object"] :=
  ⟨PySem.F.excBase_RuntimeError, fun _ => by kernel_rfl, by decide +kernel, rfl⟩
theorem under_LookupError : Under "LookupError" "LookupError.__new__" "LookupError.__init__" [.type "LookupError", .type "Exception", .type "BaseException", .type "object"] :=
  ⟨PySem.F.excBase_LookupError, fun _ => by kernel_rfl, by decide +kernel, rfl⟩
section
open Builtin Builtin.ObjectAttr
variable {prog : Program} {w : World} {A : Around} {E : Value → Shared → Prop} {R : Result → Shared → Prop} {hp : Heap} {g : Array GenState} {d : Drawn} {t : Nat} {os : OsState}
/-- the first field that is stored in such an exception -/
theorem first_field {K : PySem.W.Frag} {name : Str} {tk : Tok} {v : Value} {x C : Addr} {fv : Array Value} {cd : ClassData}
    (inn : K.In hp) (hx : hp.get? x = some { cls := .ref C, data := .fields fv }) (cl : clsIn K C = some cd) (pass : ∀ self, refuseLoop self "__setattr__" cd.mro = pure ())
    (ob : cd.mro.contains (.type "object") = true) (ne : cd.mro.isEmpty = false) (dct : cd.hasDict = true) (no : findIn K (.ref C) name = some none)
    (q : ∀ h' tk' dx, (∀ b o, b ≠ x → hp.get? b = some o → h'.get? b = some o) → hp.objs.size ≤ dx → dx ≠ x → h'.get? x = some { cls := .ref C, dict := some dx, data := .fields fv } →
      h'.Ns1 dx (fun y => if y = name then some v else none) → R (.ok (.ret .none)) ⟨h', g, d, tk', os⟩) :
    codeAny (model prog w) A (.call (.builtin "object.__setattr__") ⟨[.ref x, .str name tk, v], []⟩) R ⟨hp, g, d, t, os⟩ := by
  have J : InstAt hp x { cls := .ref C, data := .fields fv } C none := ⟨hx, rfl, rfl, trivial⟩
  have S := PySem.F.store_object
  have nx : x ≠ hp.objs.size := Nat.ne_of_lt (Heap.lt_size hx)
  have isob : Looks (model prog w) hp (isInstance (.ref x) (.type "object")) true := by
    refine J.type.andThen (looks_mroIn inn ?_)
    unfold mroIn
    rw [cl, Option.bind_some, if_neg (by rw [ne]; decide), ob]
  have mro_ : Looks (model prog w) hp (mroOf (.ref C)) cd.mro := (looks_clsIn inn cl).andThen .now
  have taker : Looks (model prog w) hp (storeTaker? none) none := .now
  have data_ : Looks (model prog w) hp (classData C) cd := looks_clsIn inn cl
  refine codeAny_call_builtin S.slot.plain S.entry
    (check_slot (M := model prog w) (s := ⟨hp, g, d, t, os⟩) (owner := "object") (n := "__setattr__") S.kind S.split isob (S.args (.ref x) (.str name tk) v) ?_)
  rw [osa_eq, refuse_eq]
  apply wpAny_bind
  apply wpAny_bind
  refine J.type.at ?_
  apply wpAny_bind
  refine mro_.at ?_
  rw [pass]
  apply wpAny_pure
  apply wpAny_bind
  refine J.type.at ?_
  apply wpAny_bind
  refine (looks_findIn inn no).at ?_
  apply wpAny_bind
  refine taker.at ?_
  show wpAny _ _ (storeInOwnDict (.ref x) (.ref C) (.str name tk) name v false) _ _ _
  cases cd
  dsimp only at dct
  subst dct
  unfold storeInOwnDict ownDictForStores
  repeat (first
    | with_reducible refine HandSPX.store_in_new ?_ ?_
    | with_reducible refine wpAny_loadPart_at hx ?_
    | with_reducible refine data_.at ?_
    | wp_step)
  · have e : ∀ f, ((hp.push { cls := .type "dict", data := .dict #[] }).update x f).get? hp.objs.size = some { cls := .type "dict", data := .dict #[] } := fun f => by
      rw [Heap.get?_update_ne _ _ _ _ (Ne.symm nx)]
      exact Heap.get?_push_at rfl rfl
    exact ⟨_, #[], _, e _, rfl, fun e he => absurd he (by simp), fun _ => rfl⟩
  · intro h' tk' hn same
    have hx1 : (hp.push { cls := .type "dict", data := .dict #[] }).get? x = some { cls := .ref C, data := .fields fv } := Heap.get?_push_of_some _ hx
    refine q h' tk' hp.objs.size ?_ (Nat.le_refl _) (Ne.symm nx) ?_ hn
    · intro b o hb ho
      rw [same.2 b (Nat.ne_of_lt (Heap.lt_size ho)), Heap.get?_update_ne _ _ _ _ hb]
      exact Heap.get?_push_of_some _ ho
    · rw [same.2 x nx]
      exact Heap.get?_update_self _ hx1 rfl
end
end
/-- what the written part tells of such a class -/
structure XC (K : PySem.W.Frag) (C : Addr) (B newId initId : String) (tail : List Value) : Prop where
  U : Under B newId initId tail
  cls : ∃ nm q N bs bm sn sub ab col dd k0 k1 k2 k3 k5, K.lookup C = some (excClassObj nm q C N bs bm true sn sub ab col dd k0 k1 k2 k3 k5 newId) ∧ refsOn tail bm = true
  sa : PySem.W.findIn K (.ref C) "__setattr__" = some (some (.builtin "object.__setattr__"))
  ex : PySem.W.subIn K (.ref C) (.type "BaseException") = some true
  ty : PySem.W.typeIn K (.ref C) = some (.type "type")
  kp : PySem.W.keepIn K (.ref C) = true
section
variable {X : Cx} {pins : List (Addr × Obj)} {σ : L2.St} {H : Hp} {s : Shared} {a C : Addr} {f : Str} {y : V} {u : Value} {A : Around} {B newId initId : String} {tail : List Value}
/-- the base's own __init__: the exception stays as it is told -/
theorem base_init {us : List Value} {Q : Value → Shared → Prop} {E : Value → Shared → Prop} (T : XC X.K C B newId initId tail) (I : Inv X pins σ H s) (ha : H a = some (exo a C none)) (few : us.length ≤ sizeLine)
    (h : ∀ s', Inv X pins σ H s' → Q .none s') : wpAny (model X.prog X.w) A (call (.builtin initId) (.ref a :: us)) Q E s := by
  obtain ⟨nm, q, N, bs, bm, sn, sub, ab, col, dd, k0, k1, k2, k3, k5, hC, on⟩ := T.cls
  obtain ⟨t1, ho⟩ := exo_at I.hok ha
  cases s with
  | mk hp g d t os =>
    refine wpAny_call (PySem.HandSPX.init_base T.U.F (fun Y => T.U.has_all Y bm on) (I.kIn _ _ hC) ho few ?_)
    intro h' t2 keep hx
    have J := I.write (t' := t) (x := a) (e := a) (o := exo a C none) (by rw [ha]; trivial) (.inl rfl) keep ⟨_, hx⟩ (exo_ok hx)
    have same : upd H a (exo a C none) = H := by
      funext b
      by_cases e : b = a
      · rw [e, upd_same]
        exact ha.symm
      · exact upd_ne e
    rw [same] at J
    exact h _ J
/-- its first field -/
theorem field_new {Q : Unit → Shared → Prop} {E : Value → Shared → Prop} (T : XC X.K C B newId initId tail) (I : Inv X pins σ H s) (ha : H a = some (exo a C none))
    (no : PySem.W.findIn X.K (.ref C) f = some none) (ry : RelV y u)
    (h : ∀ dx s', H dx = none → dx ≠ a → Inv X pins σ (upd (upd H dx (exd dx [(f, y)])) a (exo a C (some dx))) s' → Q () s') :
    wpAny (model X.prog X.w) A (setAttr (.ref a) f u) Q E s := by
  obtain ⟨nm, q, N, bs, bm, sn, sub, ab, col, dd, k0, k1, k2, k3, k5, hC, on⟩ := T.cls
  have cl : PySem.W.clsIn X.K C = some { name := nm, bases := bs, mro := .ref C :: bm, ns := N, qualname := q, hasDict := true, slotNames := sn, subclasses := sub, abstract := ab, collection := col, hasDel := false } := by
    unfold PySem.W.clsIn
    rw [hC] <;> rfl
  have on2 : refsOn tail (.ref C :: bm) = true := on
  obtain ⟨t1, ho⟩ := exo_at I.hok ha
  cases s with
  | mk hp g d t os =>
    refine PySem.W.set_plain I.kIn (ox := { cls := .ref C, dict := none, data := .fields #[.ref t1, .none, .none, .none, .bool false, .none] }) (od := none) ⟨ho, rfl, rfl, trivial⟩ T.sa ?_
    refine first_field I.kIn ho cl (fun self => T.U.pass_all self _ on2) ((T.U.has_all "object" _ on2).trans T.U.ob) rfl rfl no ?_
    intro h' tk' dx keep big dne hx hn
    have hdx : H dx = none := I.hok.fresh big
    have old : ∀ {b : Addr} {o : Obj}, hp.get? b = some o → b ≠ dx := fun {b o} e => Nat.ne_of_lt (Nat.lt_of_lt_of_le (Heap.lt_size e) big)
    have off : ∀ {b : Addr}, H b = none → b ≠ a := fun {b} n z => by
      rw [z, ha] at n
      exact nomatch n
    have U1 : Un X.fs [] H (upd (upd H dx (exd dx [(f, y)])) a (exo a C (some dx))) hp h' := by
      refine ⟨fun b o e n _ _ => keep b o (off n) e, fun b o e n _ _ => ⟨o.slots, keep b o (off n) e⟩, ?_, ?_, ?_, ?_, ?_⟩
      · intro b o e n _
        rw [upd_ne (off n), upd_ne (old e)]
        exact n
      · intro b o e _
        by_cases z : b = a
        · exact ⟨_, by rw [z]; exact hx⟩
        · exact ⟨o, keep b o z e⟩
      · intro b xs e
        rw [upd_ne (at_ne ha e exo_tup), upd_ne (ne_of_none e hdx)]
        exact e
      · intro b o v e
        rw [upd_ne (at_ne ha e exo_frz), upd_ne (ne_of_none e hdx)]
        exact e
      · intro b ps e
        refine ⟨#[], ?_⟩
        rw [upd_ne (at_ne ha e exo_tbl), upd_ne (ne_of_none e hdx), e]
        simp
    refine h dx _ hdx dne (I.un (t' := tk') U1 ?_)
    intro b o e
    by_cases z : b = a
    · subst z
      rw [upd_same] at e
      cases e
      exact exo_ok hx
    rw [upd_ne z] at e
    by_cases z2 : b = dx
    · subst z2
      rw [upd_same] at e
      cases e
      exact exd_ok hn (relO_put (fs := []) ry fun g => trivial)
    rw [upd_ne z2] at e
    refine (I.hok b o e).stay ?_ ?_ ?_
    · intro c v hc r
      refine keep c v ?_ r
      rcases hc with hc | hc
      · rw [hc]
        exact z
      · exact at_ne ha hc exo_own
    · intro c hc
      rw [upd_ne (at_ne ha hc exo_own), upd_ne (ne_of_none hc hdx)]
      exact hc
    · intro c xs hc
      rw [upd_ne (at_ne ha hc exo_tup), upd_ne (ne_of_none hc hdx)]
      exact hc
end
/-- B.__init__(self, ..) -/
def tBase (K : PySem.W.Frag) (B newId initId : String) (tail : List Value) (ta : TA) : TE := fun σ H Q => ta σ H fun vs H1 =>
  ∃ (a C : Addr) (ws : List V), vs = .ref a :: ws ∧ ws.length ≤ 1000 ∧ XC K C B newId initId tail ∧ H1 a = some (exo a C none) ∧ Q .non H1
/-- self.f = e, the one field -/
def tPut (K : PySem.W.Frag) (B newId initId : String) (tail : List Value) (f : Str) (to te : TE) : TS := fun D σ H => te σ H fun y H1 => to σ H1 fun x H2 =>
  ∃ a C : Addr, x = .ref a ∧ XC K C B newId initId tail ∧ PySem.W.findIn K (.ref C) f = some none ∧ H2 a = some (exo a C none) ∧
    ∀ dx, H2 dx = none → dx ≠ a → D.nx σ (upd (upd H2 dx (exd dx [(f, y)])) a (exo a C (some dx)))
section
variable {X : Cx} {o e : Expr} {es : List Expr} {to te : TE} {ta : TA} {f : Str} {p p' p1 p2 pos : Pos} {B newId initId : String} {tail : List Value} {nB : Str}
theorem x_base {pl : Sem Bool} (U : Under B newId initId tail) (hg : Gl X nB) (hm : X.mg nB = none) (hv : bootBuiltins nB = some (.type B))
    (ty : typeOf (.type B) = pure (.type "type")) (vV : PySem.W.findCls X.K (.type B) (.type "type") "__init__" = some (.val (.builtin initId)))
    (ha : PA X (e :: es) ta)
    (hn : nB ≠ "__name__" := by decide) (hdb : (nB == ("__debug__" : Str)) = false := by decide)
    (c1 : PySem.W.handedIn (.builtin initId) = true := by decide +kernel) (c2 : Manifest.isStub B = false := by decide +kernel)
    (hc : eval (.Call (.Attribute (.Name nB p1) "__init__" p2) (e :: es) [] pos) X.env = (do
      let ov ← eval (.Name nB p1) X.env
      standAt p2.atName
      let (f, first) ← holding [ov] (getMethod ov "__init__" pl)
      callWith pos f first (backTo pos (starEach (e :: es) X.env)) (backToKw pos (keywordEach [] X.env))) := by rfl)
    (he : starEach (e :: es) X.env = (false, eval e X.env) :: starEach es X.env := by rfl) (hpl : (backTo pos (starEach es X.env)).any (·.1) = false := by rfl) :
    PE X (.Call (.Attribute (.Name nB p1) "__init__" p2) (e :: es) [] pos) (tBase X.K B newId initId tail ta) := by
  constructor
  intro pins s σ H Q I h
  refine PySem.W.methodCall_KW (ld_blt I hg hm hv ?_ hn hdb) hc
  obtain ⟨m, fr⟩ := I.fr
  refine PySem.W.method_type fr I.ok.mod.kin ty c2 vV c1 ?_
  show wpAny _ _ (callWith pos (Value.builtin initId) [] (backTo pos (starEach (e :: es) X.env)) []) _ _ _
  refine PyProof.Rows.callWith_method1 (thn (ha.run pos pins _ σ H _ (I.tok _) h) ?_) he hpl
  rintro us s1 ⟨vs, H1, I1, r1, a, C, ws, rfl, few, T, ea, q⟩
  cases r1 with
  | cons ra rw' =>
    cases ra
    refine base_init T I1 ea ?_ fun s' J => ⟨.non, H1, J, rfl, q⟩
    rw [← Paired.length rw', sizeLine_eq]
    omega
theorem x_put (ho : PE X o to) (he : PE X e te) (hs : swapsWith e (some (.Attribute o f p')) pos.line X.env = pure false := by rfl) :
    PS X (.Assign [.Attribute o f p'] e pos) (tPut X.K B newId initId tail f to te) := by
  constructor
  intro pins s σ H D I h
  refine plainObj_wpAny_Assign_Attribute (thn (he.run pins s σ H _ I h) ?_) hs
  rintro v s1 ⟨y, H1, I1, r1, q1⟩
  refine thn (ho.run pins s1 σ H1 _ I1 q1) ?_
  rintro u s2 ⟨x, H2, I2, r2, a, C, rfl, T, no, ea, q⟩
  cases r2
  exact field_new T I2 ea no r1 fun dx s' n ne J => ⟨σ, _, J, q dx n ne⟩
end
/-- C(e, ..), C's own __init__ keeping sp -/
def tNewX (C : Addr) (sp : Sp) (ta : TA) : L2.St → Hp → XK → Prop := fun σ H Q => ta σ H fun vs H1 => vs.length ≤ 1000 ∧ ∀ a, H1 a = none → sp (.ref a :: vs) (upd H1 a (exo a C none))
  (fun v H2 => v = .non ∧ ∃ (d : Addr) (fs : List (Str × V)), H2 a = some (exo a C (some d)) ∧ H2 d = some (exd d fs) ∧ H1 d = none ∧ Q (.ref C) (some d) (upd (del H2 a) d (.xd fs))) E0
section
variable {X : Cx} {e : Expr} {es : List Expr} {ta : TA} {p pos : Pos} {B newId initId : String} {tail : List Value} {x : Str} {C fI : Addr} {k : Nat} {fd : FuncData} {ps : List Str} {sp : Sp}
theorem x_new (T : XC X.K C B newId initId tail) (iC : PySem.W.findIn X.K (.ref C) "__init__" = some (some (.ref fI))) (tI : PySem.W.typeIn X.K (.ref fI) = some (.type "function"))
    (F1 : Fg X k fI fd ps sp) (z : RoomG (k + 1) X.A) (hb : BindsD X.K fd ps []) (hg : Gl X x) (hm : X.mg x = some (.ref C)) (ha : PA X (e :: es) ta)
    (hdb : (x == ("__debug__" : Str)) = false := by decide) (he : starEach (e :: es) X.env = (false, eval e X.env) :: starEach es X.env := by rfl) (hpl : (backTo pos (starEach es X.env)).any (·.1) = false := by rfl) :
    PMk X (.Call (.Name x p) (e :: es) [] pos) (tNewX C sp ta) := by
  obtain ⟨ds, hd, hb⟩ := hb
  cases hd
  intro pins s σ H Q I h
  obtain ⟨nm, q, N, bs, bm, sn, sub, ab, col, dd, k0, k1, k2, k3, k5, hC, on⟩ := T.cls
  refine wpAny_Call_Name_kw (ld_glob I hg hm ?_ hdb)
  refine PySem.W.callWith_K (h₀ := X.base) I.ok.mod.kin T.kp (thn (ha.run pos pins s σ H _ I h) ?_) he hpl
  rintro us s1 ⟨vs, H1, I1, r1, few, q1⟩
  refine ⟨I1.kIn, ?_⟩
  show wpAny _ _ (call (.ref C) us) _ _ _
  cases s1 with
  | mk hp g dr tk os =>
    have big : hp.objs.size ≤ hp.objs.size + 1 := Nat.le_succ _
    have hq := q1 (hp.objs.size + 1) (I1.hok.fresh big)
    have keep : ∀ b o, hp.get? b = some o → ((hp.push (PySem.W.kdv_tup us)).push (PySem.HandSPX.excO C hp.objs.size)).get? b = some o :=
      fun b o e => Heap.get?_push_of_some _ (Heap.get?_push_of_some _ e)
    have there : ((hp.push (PySem.W.kdv_tup us)).push (PySem.HandSPX.excO C hp.objs.size)).get? (hp.objs.size + 1) = some (PySem.HandSPX.excO C hp.objs.size) := by heap_get
    have I2 : Inv X pins σ (upd H1 (hp.objs.size + 1) (exo (hp.objs.size + 1) C none)) ⟨(hp.push (PySem.W.kdv_tup us)).push (PySem.HandSPX.excO C hp.objs.size), g, dr, tk, os⟩ :=
      I1.laid (t' := tk) (a := hp.objs.size + 1) (o := exo (hp.objs.size + 1) C none) keep big (exo_ok there)
    have r2 : Vals (V.ref (hp.objs.size + 1) :: vs) (Value.ref (hp.objs.size + 1) :: us) := .cons rfl r1
    have hl : (Value.ref (hp.objs.size + 1) :: us ++ []).length = ps.length := by
      rw [List.append_nil, ← r2.length]
      exact F1.len _ _ _ _ hq
    have hus : us.length ≤ sizeLine := by
      rw [← Paired.length r1, sizeLine_eq]
      omega
    have b := hb _ (Value.ref (hp.objs.size + 1) :: us) I2.kIn hl
    rw [List.append_nil] at b
    refine wpAny_call (PySem.HandSPX.call_own T.U.F (fun Y => T.U.has_all Y bm on) (I1.kIn _ _ hC) (PySem.W.looks_findIn I1.kIn iC) (fun self => PySem.W.bind_fn I1.kIn self tI) hus
      (codeAny_mono (F1.run _ X.stack _ _ ⟨Value.ref (hp.objs.size + 1) :: us, []⟩ _ _ _ E0 (z.make C us []) (I2.env0.make C us []) b r2 hq) ?_))
    intro r s' hr
    match r, hr with
    | .error er, hr => exact passL pins σ _ _ er s' I2 hr
    | .ok (.ret u), hr =>
      obtain ⟨v, H2, os2, bare2, un2, hok2, rv, ev, d, fs, ea, ed, hd1, q2⟩ := hr
      subst ev
      cases s' with
      | mk h2 g2 d2 t2 os' => exact ⟨rv, mk_end (raises_own T.ex T.ty) I1 big keep un2 hok2 os2 bare2 ea ed hd1 q2⟩
    | .ok .next, hr => exact False.elim hr
    | .ok .brk, hr => exact False.elim hr
    | .ok .cont, hr => exact False.elim hr
end

/-! ### calls that may raise; what is asked of a caught exception -/
section
variable {X : Cx} {k n : Nat} {f C : Addr} {fd : FuncData} {ps ks : List Str} {sp : Sp} {dvs : List V} {E : L2.St → XK} {x m : Str} {p pos apos : Pos} {e o : Expr} {es : List Expr} {ta : TE} {t : TA}
variable {pins : List (Addr × Obj)} {σ : L2.St} {H : Hp} {s s' : Shared} {Q : VK}
abbrev PsAt (X : Cx) (E : L2.St → XK) : Prop := ∀ σ, PassesAt (L2.CX X.prog X.w) X σ (E σ)
theorem raise_run {us : List Value} {vs : List V} (F : Fg X k f fd ps sp) (z : RoomG k X.A) (hb : BindsD X.K fd ps dvs) (hx : PsAt X E) (I : Inv X pins σ H s) (rv : Vals vs us)
    (h : sp (vs ++ dvs) H Q (E σ)) : wpAny (model X.prog X.w) X.A (call (.ref f) us) (EP X pins σ Q) X.xe s := by
  obtain ⟨ds, hd, hb⟩ := hb
  have r2 : Vals (vs ++ dvs) (us ++ ds) := rv.append hd
  have hl : (us ++ ds).length = ps.length := by
    rw [← r2.length]
    exact F.len _ _ _ _ h
  refine wpAny_call (codeAny_mono (F.run X.A X.stack s H ⟨us, []⟩ _ _ Q (E σ) z I.env0 (hb s us I.kIn hl) r2 h) ?_)
  intro r s' q
  match r, q with
  | .error e, q => exact hx σ pins H s e s' I q
  | .ok (.ret u), q => exact I.after q
  | .ok .next, q => exact False.elim q
  | .ok .brk, q => exact False.elim q
  | .ok .cont, q => exact False.elim q
/-- f(..), that may raise -/
def tCallX (sp : Sp) (dvs : List V) (E : L2.St → XK) (t : TA) : TE := fun σ H Q => t σ H fun vs H1 => sp (vs ++ dvs) H1 Q (E σ)
theorem s1 (F : Fg X k f fd ps sp) (z : RoomG k X.A) (hg : Gl X x) (hm : X.mg x = some (.ref f)) (hk : PySem.W.keepIn X.K (.ref f) = true) (hb : BindsD X.K fd ps dvs)
    (hx : PsAt X E) (ha : PA X (e :: es) t) (hdb : (x == ("__debug__" : Str)) = false := by decide)
    (he : starEach (e :: es) X.env = (false, eval e X.env) :: starEach es X.env := by rfl) (hpl : (backTo pos (starEach es X.env)).any (·.1) = false := by rfl) :
    PE X (.Call (.Name x p) (e :: es) [] pos) (tCallX sp dvs E t) := by
  constructor
  intro pins s σ H Q I h
  refine wpAny_Call_Name_kw (ld_glob I hg hm ?_ hdb)
  refine PySem.W.callWith_K (h₀ := X.base) I.ok.mod.kin hk (thn (ha.run pos pins s σ H _ I h) ?_) he hpl
  rintro us s1 ⟨vs, H1, I1, r, q⟩
  exact ⟨I1.kIn, raise_run F z hb hx I1 r q⟩
/-- o.m(..), that may raise -/
def tMethX (C : Addr) (nm : Str) (sp : Sp) (dvs : List V) (E : L2.St → XK) (ta : TE) (t : TA) : TE := fun σ H Q => ta σ H fun x H1 => ∃ a dx fs, x = .ref a ∧ H1 a = some (.ins C dx fs) ∧ fs.lookup nm = none ∧
  t σ H1 fun vs H2 => sp (x :: vs ++ dvs) H2 Q (E σ)
theorem sm {pl : Sem Bool} (c : Cls X.K C) (hm : Meth X.K C m f) (F : Fg X k f fd ps sp) (z : RoomG k X.A) (hb : BindsD X.K fd ps dvs) (hx : PsAt X E) (he : PE X o ta) (ha : PA X (e :: es) t)
    (hst : starEach (e :: es) X.env = (false, eval e X.env) :: starEach es X.env := by rfl) (hpl : (backTo pos (starEach es X.env)).any (·.1) = false := by rfl)
    (ht : eval (.Call (.Attribute o m apos) (e :: es) [] pos) X.env = (do
      let y ← eval o X.env
      standAt apos.atName
      let (g, a) ← holding [y] (getMethod y m pl)
      callWith pos g a (backTo pos (starEach (e :: es) X.env)) (backToKw pos (keywordEach [] X.env))) := by rfl) :
    PE X (.Call (.Attribute o m apos) (e :: es) [] pos) (tMethX C m sp dvs E ta t) := by
  constructor
  intro pins s σ H Q I h
  refine PySem.W.methodCall_KW (pl := pl) (thn (he.run pins s σ H _ I h) ?_) ht
  rintro u s1 ⟨v, H1, I1, rx, a, dx, fs, rfl, ea, l, q⟩
  cases rx
  refine getmeth_ok I1 ea c hm l ?_
  refine PySem.W.callWith_K (first := [.ref a]) (h₀ := X.base) I.ok.mod.kin hm.kp (thn (ha.run pos pins s1 σ H1 _ I1 q) ?_) hst hpl
  rintro us s2 ⟨vs, H2, I2, r, q2⟩
  exact ⟨I2.kIn, raise_run (us := .ref a :: us) (vs := .ref a :: vs) F z hb hx I2 (.cons rfl r) q2⟩
theorem sm0 {pl : Sem Bool} (c : Cls X.K C) (hm : Meth X.K C m f) (F : Fg X k f fd ps sp) (z : RoomG k X.A) (hb : BindsD X.K fd ps dvs) (hx : PsAt X E) (he : PE X o ta)
    (ht : eval (.Call (.Attribute o m apos) [] [] pos) X.env = (do
      let y ← eval o X.env
      standAt apos.atName
      let (g, a) ← holding [y] (getMethod y m pl)
      callWith pos g a (backTo pos (starEach [] X.env)) (backToKw pos (keywordEach [] X.env))) := by rfl) :
    PE X (.Call (.Attribute o m apos) [] [] pos) (tMethX C m sp dvs E ta tNil) := by
  constructor
  intro pins s σ H Q I h
  refine PySem.W.methodCall_KW (pl := pl) (thn (he.run pins s σ H _ I h) ?_) ht
  rintro u s1 ⟨v, H1, I1, rx, a, dx, fs, rfl, ea, l, q⟩
  cases rx
  refine getmeth_ok I1 ea c hm l ?_
  refine PySem.W.callWith_K0 (first := [.ref a]) I1.kIn hm.kp ?_
  exact raise_run (us := [.ref a]) (vs := [.ref a]) F z hb hx I1 (.cons rfl .nil) q
theorem i_callX {σ : L2.St} {H : Hp} {Q : VK} (h : t σ H fun vs H1 => sp (vs ++ dvs) H1 Q (E σ)) : tCallX sp dvs E t σ H Q := h
theorem i_callX0 {σ : L2.St} {H : Hp} {Q : VK} (h : t σ H fun vs H1 => sp vs H1 Q (E σ)) : tCallX sp [] E t σ H Q := by
  unfold tCallX
  simp only [List.append_nil]
  exact h
end
section
open PySem.W PySem.Calls PyProof.Rows
variable {prog : Program} {w : World} {K : PySem.W.Frag} {x D : Addr} {ox : Obj}
theorem kit_exc (T : L2.ExcC K D) : KitX K (.ref x) (.ref D) (fun h => ∃ od, InstAt h x ox D od) := by
  obtain ⟨cd, hc, _⟩ := any_some T.hd
  have at_ : ∃ o, K.lookup D = some o ∧ ∀ cls dict its n sl, o ≠ ⟨cls, dict, .seq its n, sl⟩ := by
    unfold clsIn at hc
    split at hc
    · rename_i c' d' cd' sl' ho
      exact ⟨_, ho, fun _ _ _ _ _ z => nomatch z⟩
    · cases hc
  have hf : ∀ od, findObj K D od "__class__" = some (.bind (.builtin "getset_descriptor.__get__") (.builtin "object.__class__")) :=
    fun od => findObj_dataE (by rw [hc]; rfl) T.ha T.hn T.ht
  refine ⟨fun _ _ _ ⟨_, I⟩ => I.type, ?_, ?_, ?_⟩
  · intro M h inn _
    unfold clsIn at hc
    split at hc
    · rename_i c' d' cd' sl' ho
      intro A Q E s keep q
      unfold isType loadHead
      exact wpAny_bind (wpAny_loadPart (keep _ _ (inn _ _ ho)) (wpAny_pure q))
    · cases hc
  · intro h tp dd its n sl inn htp
    rw [Bool.eq_false_iff]
    intro q
    have e : D = tp := Value.ref.inj (beq_iff_eq.mp q)
    subst e
    obtain ⟨o, ho, no⟩ := at_
    have z := (inn _ _ ho).symm.trans htp
    exact no _ _ _ _ _ (Option.some.inj z)
  · intro prog w A E Q s inn ⟨od, I⟩ q
    exact kx_classE inn I T.hg T.hk T.hs (hf od) T.hm q
end
/-- isinstance(e, c), e the caught exception at a, of the class cls, its dict d -/
def rIsX (K : PySem.W.Frag) (a : Addr) (cls : Value) (d : Option Addr) : List V → Hp → VK → Prop := fun xs H Q => ∃ (D : Addr) (c : V) (cv : Value) (b : Bool), cls = .ref D ∧ L2.ExcC K D ∧
  (d = none ∨ ∃ dd fs, d = some dd ∧ H dd = some (.xd fs)) ∧ xs = [.ref a, c] ∧ ClsV c cv ∧ PySem.W.kitOne K (.ref D) cv = some b ∧ Q (.bl b) H
/-- isinstance(e, (c1, c2, ..)) -/
def rIsXT (K : PySem.W.Frag) (a : Addr) (cls : Value) (d : Option Addr) : List V → Hp → VK → Prop := fun xs H Q => ∃ (D tp : Addr) (cs : List V) (us : List Value) (b : Bool), cls = .ref D ∧ L2.ExcC K D ∧
  (d = none ∨ ∃ dd fs, d = some dd ∧ H dd = some (.xd fs)) ∧ xs = [.ref a, .ref tp] ∧ H tp = some (.tup cs) ∧ Paired ClsV cs us ∧ PySem.W.kitAny K (.ref D) us = some b ∧ Q (.bl b) H
section
variable {X : Cx} {a : Addr} {oe : Obj} {cls : Value} {d : Option Addr} {pn : List (Addr × Obj)} {K : PySem.W.Frag}
theorem caught_at {D : Addr} {pins : List (Addr × Obj)} {σ : L2.St} {H : Hp} {s : Shared} (I : Inv (X.suite a ((a, oe) :: pn)) pins σ H s) (hz : Zc (.ref D) d oe) (hf : ∃ vs, oe.data = .fields vs)
    (hd : d = none ∨ ∃ dd fs, d = some dd ∧ H dd = some (.xd fs)) : ∃ od, PySem.W.InstAt s.heap a oe D od := by
  obtain ⟨there, _⟩ := I.pin (a, oe) (List.mem_append_left _ List.mem_cons_self)
  obtain ⟨vs, hv⟩ := hf
  obtain ⟨h1, h2⟩ := hz
  have nc : PySem.W.notCls oe = true := by
    unfold PySem.W.notCls
    rw [hv] <;> rfl
  rcases hd with rfl | ⟨dd, fs, rfl, e⟩
  · exact ⟨none, there, h1, nc, by rw [h2]; trivial⟩
  · obtain ⟨mA, hns, _⟩ : ObjOk X.prog X.w H s.heap dd (.xd fs) := I.hok dd _ e
    obtain ⟨od, ho, _⟩ := lookIn_ns hns
    exact ⟨some od, there, h1, nc, by rw [h2]; exact ho⟩
theorem k_isX (h : X.K = K) (hz : Zc cls d oe) (hf : ∃ vs, oe.data = .fields vs) : CallR (X.suite a ((a, oe) :: pn)) (.builtin "isinstance") (rIsX K a cls d) := by
  subst h
  intro pins s σ H xs us Q I r q
  obtain ⟨D, c, cv, b, rfl, T, hd, rfl, hc, kit, q⟩ := q
  obtain ⟨u1, u2, rfl, r1, r2⟩ := vals2 r
  cases r1
  have e := hc.eq r2
  subst e
  exact PySem.W.kia_one (kit_exc (ox := oe) T) I.kIn (caught_at I hz hf hd) kit (fun z => nomatch z) fun tk => ⟨.bl b, H, I.tok tk, rfl, q⟩
theorem k_isXT (h : X.K = K) (hz : Zc cls d oe) (hf : ∃ vs, oe.data = .fields vs) : CallR (X.suite a ((a, oe) :: pn)) (.builtin "isinstance") (rIsXT K a cls d) := by
  subst h
  intro pins s σ H xs us Q I r q
  obtain ⟨D, tp, cs, ws, b, rfl, T, hd, rfl, hT, hc, kit, q⟩ := q
  obtain ⟨u1, u2, rfl, r1, r2⟩ := vals2 r
  cases r1
  cases r2
  obtain ⟨_, its, rv, o, h1, h2, n, h3⟩ := (show ObjOk X.prog X.w H s.heap tp (.tup cs) from I.hok tp _ hT)
  have e3 := ClsV.all hc rv
  subst e3
  cases o
  simp only at h2 h3
  subst h2 h3
  exact PySem.W.kia_tup (kit_exc (ox := oe) T) I.kIn (caught_at I hz hf hd) h1 kit (fun z => nomatch z) fun tk => ⟨.bl b, H, I.tok tk, rfl, q⟩
end

def MethX (C : Addr) (nm : Str) (sp : Sp) (dvs : List V) (E : L2.St → XK) (t : TA) (σ : L2.St) (x : V) (H1 : Hp) (Q : VK) : Prop := ∃ a dx fs, x = .ref a ∧ H1 a = some (.ins C dx fs) ∧ fs.lookup nm = none ∧
  t σ H1 fun vs H2 => sp (x :: vs ++ dvs) H2 Q (E σ)
theorem i_methX {C : Addr} {nm : Str} {sp : Sp} {dvs : List V} {E : L2.St → XK} {ta : TE} {t : TA} {σ : L2.St} {H : Hp} {Q : VK} (h : ta σ H fun x H1 => MethX C nm sp dvs E t σ x H1 Q) : tMethX C nm sp dvs E ta t σ H Q := h
theorem i_methXR {C : Addr} {nm : Str} {sp : Sp} {E : L2.St → XK} {t : TA} {σ : L2.St} {H : Hp} {Q : VK} {a dx : Addr} {fs : List (Str × V)} (ha : H a = some (.ins C dx fs)) (hl : fs.lookup nm = none) (h : t σ H fun vs H2 => sp (.ref a :: vs) H2 Q (E σ)) : MethX C nm sp [] E t σ (.ref a) H Q := ⟨a, dx, fs, rfl, ha, hl, by simpa only [List.append_nil] using h⟩

local macro_rules | `(tactic| walk_at "g_tr") => `(tactic| first
  | with_reducible assumption
  | (with_reducible exact tr_of (by with_reducible assumption))
  | with_reducible exact tr_same
  | ((with_reducible refine tr_upd ?_); walk_at "g_tr")
  | (with_reducible exact tr_pot (by with_reducible assumption))
  | (with_reducible exact tr_ld (by with_reducible assumption))
  | ((with_reducible apply tr_kp (by with_reducible assumption) ?h); (case h => walk_at "g_tr")))
local macro_rules | `(tactic| walk_at "g_ne") => `(tactic| first
  | with_reducible assumption
  | (with_reducible exact Ne.symm (by with_reducible assumption))
  | ((with_reducible apply fr_tr ?h (by with_reducible assumption)); (case h => walk_at "g_tr"))
  | ((with_reducible apply Ne.symm (fr_tr ?h (by with_reducible assumption))); (case h => walk_at "g_tr")))
local macro_rules | `(tactic| walk_at "g_hp") => `(tactic| first
  | with_reducible assumption
  | with_reducible apply upd_same
  | ((with_reducible apply upd_nn ?h ?k); (case h => walk_at "g_ne"); (case k => walk_at "g_hp"))
  | ((with_reducible apply kp_at (by with_reducible assumption) ?h ?n); (case n => walk_at "g_ni"); (case h => walk_at "g_hp")))
local macro_rules | `(tactic| walk_at "g_ni") => `(tactic| first
  | exact not_nil
  | with_reducible assumption
  | ((with_reducible refine not_one ?_); walk_at "g_ne")
  | ((with_reducible refine not_two ?_ ?_) <;> walk_at "g_ne"))
local macro_rules | `(tactic| walk_at "g_pot") => `(tactic| first
  | with_reducible assumption
  | ((with_reducible apply pot_upd ?h ?n); (case n => walk_at "g_ne"); (case h => walk_at "g_pot"))
  | ((with_reducible apply PotAt.kp ?h (by with_reducible assumption) ?n); (case n => walk_at "g_ni"); (case h => walk_at "g_pot")))
local macro_rules | `(tactic| walk_at "g_ld") => `(tactic| first
  | with_reducible assumption
  | ((with_reducible apply ld_upd ?h ?i ?n); (case n => walk_at "g_fr"); (case i => walk_at "g_im"); (case h => walk_at "g_ld"))
  | ((with_reducible apply ld_upl ?h ?i ?n ?m); (case n => walk_at "g_hp"); (case m => walk_at "g_ne"); (case i => walk_at "g_im"); (case h => walk_at "g_ld"))
  | ((with_reducible apply ld_ins ?h ?i ?n); (case n => walk_at "g_hp"); (case i => walk_at "g_im"); (case h => walk_at "g_ld"))
  | ((with_reducible apply LD.kp ?h (by with_reducible assumption) ?i ?n); (case n => walk_at "g_ni"); (case i => walk_at "g_im"); (case h => walk_at "g_ld")))
local macro_rules | `(tactic| walk_at "g_im") => `(tactic| first
  | with_reducible assumption
  | exact imms_d2 _
  | rfl)
local macro_rules | `(tactic| walk_at "g_fx") => `(tactic| first
  | with_reducible assumption
  | with_reducible exact fx_refl
  | ((with_reducible apply fx_new ?h ?f); (case f => with_reducible assumption); (case h => walk_at "g_fx"))
  | ((with_reducible apply fx_mut ?h ?f ?g); (case f => walk_at "g_hp"); (case g => exact fun z => z); (case h => walk_at "g_fx"))
  | ((with_reducible apply fx_kp (by with_reducible assumption) ?h); (case h => walk_at "g_fx")))
local macro_rules | `(tactic| walk_at "g_st") => `(tactic| first
  | with_reducible assumption
  | ((with_reducible apply Fx.seqT ?k (by with_reducible assumption)); (case k => walk_at "g_fx"))
  | ((with_reducible apply SqT.of ?h); (case h => walk_at "g_hp")))
local macro_rules | `(tactic| walk_at "g_sq") => `(tactic| first
  | with_reducible assumption
  | ((with_reducible apply SqL.of ?h); (case h => walk_at "g_hp"))
  | ((with_reducible apply sqL_new ?h (by with_reducible assumption)); (case h => walk_at "g_sq"))
  | ((with_reducible apply sqL_kp (by with_reducible assumption) ?h ?n); (case h => walk_at "g_sq"); (case n => walk_at "g_ni")))
local macro_rules | `(tactic| walk_at "g_kp") => `(tactic| first
  | with_reducible assumption
  | with_reducible exact Kp.refl
  | with_reducible exact Kp.wide (by with_reducible assumption)
  | ((with_reducible apply Kp.trans ?k (by with_reducible assumption)); (case k => walk_at "g_kp"))
  | ((with_reducible apply Kp.trans ?k (Kp.wide (by with_reducible assumption))); (case k => walk_at "g_kp"))
  | ((with_reducible apply Kp.trans ?k (Kp.mono (by with_reducible assumption) ?m)); (case m => simp only [List.mem_cons, List.not_mem_nil, or_false, forall_eq, true_or, or_true, List.mem_singleton, implies_true]); (case k => walk_at "g_kp"))
  | ((with_reducible apply Kp.upd ?k ?h); (case h => walk_at "g_fr"); (case k => walk_at "g_kp"))
  | ((with_reducible apply Kp.upi ?k ?h ?m); (case h => walk_at "g_hp"); (case m => simp only [List.mem_cons, true_or, or_true]); (case k => walk_at "g_kp"))
  | ((with_reducible apply Kp.upm ?k ?h ?m); (case h => walk_at "g_hp"); (case m => simp only [List.mem_cons, true_or, or_true]); (case k => walk_at "g_kp")))
local macro_rules | `(tactic| walk_at "g_old") => `(tactic| first
  | with_reducible exact Old.refl
  | ((with_reducible apply old_upd ?k); (case k => walk_at "g_old"))
  | ((with_reducible apply old_kp (by with_reducible assumption) ?k); (case k => walk_at "g_old")))
local macro_rules | `(tactic| walk_at "g_fr") => `(tactic| first
  | with_reducible assumption
  | ((with_reducible apply fr_of (by with_reducible assumption) ?o); (case o => walk_at "g_old")))
local macro_rules | `(tactic| walk_at "g_at") => `(tactic| first
  | assumption
  | exact atI_last _ _
  | exact at_zero
  | rfl)
local macro_rules | `(tactic| walk_at "g_sz") => `(tactic| first
  | assumption
  | ((with_reducible apply small_sz); (try simp only [List.length_append, List.length_cons, List.length_nil]); omega))
local macro_rules | `(tactic| walk_at "g1") => `(tactic| first
  | (with_reducible refine Red.r ?_)
  | ((with_reducible apply i_var ?h ?_); (case h => exact rfl))
  | (with_reducible refine i_few (by simp only [List.length_cons, List.length_nil]; decide) ?_)
  | ((with_reducible apply i_aug ?h ?_); (case h => exact rfl))
  | ((with_reducible refine i_wipe ?e ?_); (case e => rfl))
  | ((with_reducible apply i_tyL ?h ?_); (case h => walk_at "g_sq"))
  | ((with_reducible apply i_app ?h ?g ?_); (case h => walk_at "g_hp"); (case g => walk_at "g_sz"))
  | ((with_reducible apply i_lenO ?h ?g ?_); (case h => walk_at "g_hp"); (case g => exact rfl))
  | ((with_reducible apply i_lenL ?h ?_); (case h => walk_at "g_sq"))
  | ((with_reducible apply i_lenT ?h ?_); (case h => walk_at "g_st"))
  | ((with_reducible apply i_gTup ?h ?g ?_); (case h => walk_at "g_st"); (case g => rfl))
  | ((with_reducible apply i_setL ?h ?g ?_); (case h => walk_at "g_hp"); (case g => first | (simp only [List.length_append, List.length_cons, List.length_nil]; exact ix_last _) | (simp only [List.length_cons]; exact ix_zero _) | rfl))
  | ((with_reducible apply i_revd ?h ?g); (case h => walk_at "g_sq"))
  | ((with_reducible apply i_ins0 ?h ?g ?k); (case h => walk_at "g_hp"); (case g => walk_at "g_sz"))
  | ((with_reducible apply i_ixS (by with_reducible assumption) ?k ?g ?_); (case k => walk_at "g_fx"); (case g => walk_at "g_at"))
  | ((with_reducible apply i_ixO ?h ?g ?_); (case h => walk_at "g_hp"); (case g => walk_at "g_at"))
  | ((with_reducible apply i_ixL ?h ?g ?_); (case h => walk_at "g_sq"); (case g => walk_at "g_at"))
  | ((with_reducible refine i_mod ?c ?_); (case c => omega))
  | ((with_reducible refine i_div ?c ?d ?_); (case c => omega); (case d => omega))
  | ((with_reducible refine i_dm ?c ?d ?_); (case c => omega); (case d => omega))
  | ((with_reducible apply i_listL ?h ?g); (case h => walk_at "g_sq"))
  | ((with_reducible apply i_listT ?h ?g); (case h => walk_at "g_st"))
  | ((with_reducible apply i_methR ?h ?g ?_); (case h => walk_at "g_hp"); (case g => exact rfl))
  | (walk_at "g_own")
  | ((with_reducible apply i_methWR ?h ?g ?_); (case h => walk_at "g_hp"); (case g => exact rfl))
  | ((with_reducible apply i_lens ?h ?g ?_); (case h => exact rfl); (case g => exact rfl))
  | ((with_reducible apply i_fldR ?h ?c ?n ?g ?_); (case h => walk_at "g_hp"); (case c => with_reducible assumption); (case n => with_reducible assumption); (case g => exact rfl))
  | ((with_reducible apply i_fldSR ?h ?c ?n ?g ?_); (case h => walk_at "g_hp"); (case c => with_reducible assumption); (case n => with_reducible assumption); (case g => exact fs_few (by rfl)))
  | ((with_reducible apply i_slL ?h ?_); (case h => walk_at "g_sq"))
  | ((with_reducible apply i_addL ?h ?g ?z ?_); (case h => walk_at "g_hp"); (case g => walk_at "g_hp"); (case z => (try simp only [List.length_append, List.length_cons, List.length_nil, List.length_map]); omega))
  | ((with_reducible refine i_mulI ?c ?_); (case c => first | exact Or.inl ⟨by omega, by omega⟩ | exact Or.inr ⟨by omega, by omega⟩)))
local macro_rules | `(tactic| walk_at "gr") => `(tactic| first | ((walk_at "g1"); (walk_at "gr")) | skip)
local macro_rules | `(tactic| walk_at "gs") => `(tactic| (walk_at "gr"))

/-! ### an exception's class with its own __init__, looked at in the kernel -/
def slotN (newId : String) (l : List (Option Value)) : Bool := decide (l = [l.getD 0 none, l.getD 1 none, l.getD 2 none, l.getD 3 none, some (.builtin newId), l.getD 5 none])
def mroX (C : Addr) (tail : List Value) (l : List Value) : Bool := decide (l = .ref C :: l.tail) && refsOn tail l.tail
def objX (C : Addr) (tail : List Value) (newId : String) (o : Obj) : Bool :=
  decide (o.cls = .type "type") && (slotN newId o.slots.toList && (match o.data with
    | .cls cd => mroX C tail cd.mro && (!cd.hasDel && cd.hasDict)
    | _ => false))
def excB (K : PySem.W.Frag) (C : Addr) (tail : List Value) (newId : String) : Bool :=
  match K.lookup C with
  | some o => objX C tail newId o
  | none => false
theorem objX_ok {C : Addr} {tail : List Value} {newId : String} {o : Obj} (h : objX C tail newId o = true) :
    ∃ nm q N bs bm sn sub ab col dd k0 k1 k2 k3 k5, o = excClassObj nm q C N bs bm true sn sub ab col dd k0 k1 k2 k3 k5 newId ∧ refsOn tail bm = true := by
  obtain ⟨oc, od, dt, osl⟩ := o
  obtain ⟨h1, h2⟩ := Bool.and_eq_true_iff.mp h
  obtain ⟨h3, h4⟩ := Bool.and_eq_true_iff.mp h2
  have e1 : oc = .type "type" := of_decide_eq_true h1
  obtain ⟨l⟩ := osl
  have e3 : l = [l.getD 0 none, l.getD 1 none, l.getD 2 none, l.getD 3 none, some (.builtin newId), l.getD 5 none] := of_decide_eq_true h3
  cases dt with
  | cls cd =>
    obtain ⟨nm, bs, mro, ns, qn, hd, sn, sub, ab, col, del⟩ := cd
    obtain ⟨h5, h6⟩ := Bool.and_eq_true_iff.mp (show (mroX C tail mro && (!del && hd)) = true from h4)
    obtain ⟨h7, h8⟩ := Bool.and_eq_true_iff.mp h6
    obtain ⟨h9, h10⟩ := Bool.and_eq_true_iff.mp h5
    have e9 : mro = .ref C :: mro.tail := of_decide_eq_true h9
    have e8 : hd = true := h8
    have e7 : del = false := by
      cases del
      · rfl
      · cases h7
    refine ⟨nm, qn, ns, bs, mro.tail, sn, sub, ab, col, od, l.getD 0 none, l.getD 1 none, l.getD 2 none, l.getD 3 none, l.getD 5 none, ?_, h10⟩
    rw [e1, e7, e8]
    show Obj.mk _ _ (Data.cls (ClassData.mk nm bs mro ns qn true sn sub ab col false)) (Array.mk l) = Obj.mk _ _ (Data.cls (ClassData.mk nm bs (.ref C :: mro.tail) ns qn true sn sub ab col false)) (Array.mk [l.getD 0 none, l.getD 1 none, l.getD 2 none, l.getD 3 none, some (.builtin newId), l.getD 5 none])
    rw [← e9, ← e3]
  | _ => cases h4
theorem excB_ok {K : PySem.W.Frag} {C : Addr} {tail : List Value} {newId : String} (h : excB K C tail newId = true) :
    ∃ nm q N bs bm sn sub ab col dd k0 k1 k2 k3 k5, K.lookup C = some (excClassObj nm q C N bs bm true sn sub ab col dd k0 k1 k2 k3 k5 newId) ∧ refsOn tail bm = true := by
  unfold excB at h
  cases e : K.lookup C with
  | none =>
    rw [e] at h
    cases h
  | some o =>
    rw [e] at h
    obtain ⟨nm, q, N, bs, bm, sn, sub, ab, col, dd, k0, k1, k2, k3, k5, e2, r⟩ := objX_ok h
    exact ⟨nm, q, N, bs, bm, sn, sub, ab, col, dd, k0, k1, k2, k3, k5, congrArg some e2, r⟩
def foundV (v : Value) : Option PySem.W.CFound → Bool
  | some (.val w) => decide (w = v)
  | _ => false
def foundB (n : String) (o : Option PySem.W.CFound) : Bool := foundV (.builtin n) o
theorem foundB_ok {n : String} {o : Option PySem.W.CFound} (h : foundB n o = true) : o = some (.val (.builtin n)) := by
  cases o with
  | none => cases h
  | some f =>
    cases f with
    | val w =>
      have e : w = .builtin n := of_decide_eq_true h
      rw [e]
    | _ => cases h

/-! ### ForkError.__init__(self, ..), ForkError an own class; a class whose __init__ may raise -/
section
open PyProof PyProof.Rows PySem.Calls PySem.Spec
theorem under_ValueError : Under "ValueError" "ValueError.__new__" "ValueError.__init__" [.type "ValueError", .type "Exception", .type "BaseException", .type "object"] :=
  ⟨PySem.F.excBase_ValueError, fun _ => by kernel_rfl, by decide +kernel, rfl⟩
variable {X : Cx} {o e : Expr} {es : List Expr} {to te : TE} {ta t : TA} {f : Str} {p p' p1 p2 pos : Pos} {B newId initId : String} {tail : List Value} {nB x : Str} {F C : Addr}
theorem x_baseC {pl : Sem Bool} (U : Under B newId initId tail) (hg : Gl X nB) (hm : X.mg nB = some (.ref F)) (gt : PySem.W.specialIn X.K (.ref F) "__getattribute__" = some (some (.builtin "type.__getattribute__")))
    (rd : PySem.W.readsIn X.K F (.type "type") = true) (vV : PySem.W.findCls X.K (.ref F) (.type "type") "__init__" = some (.val (.builtin initId)))
    (ha : PA X (e :: es) ta)
    (hdb : (nB == ("__debug__" : Str)) = false := by decide)
    (c1 : PySem.W.handedIn (.builtin initId) = true := by decide +kernel)
    (hc : eval (.Call (.Attribute (.Name nB p1) "__init__" p2) (e :: es) [] pos) X.env = (do
      let ov ← eval (.Name nB p1) X.env
      standAt p2.atName
      let (f, first) ← holding [ov] (getMethod ov "__init__" pl)
      callWith pos f first (backTo pos (starEach (e :: es) X.env)) (backToKw pos (keywordEach [] X.env))) := by rfl)
    (he : starEach (e :: es) X.env = (false, eval e X.env) :: starEach es X.env := by rfl) (hpl : (backTo pos (starEach es X.env)).any (·.1) = false := by rfl) :
    PE X (.Call (.Attribute (.Name nB p1) "__init__" p2) (e :: es) [] pos) (tBase X.K B newId initId tail ta) := by
  constructor
  intro pins s σ H Q I h
  refine PySem.W.methodCall_KW (ld_glob I hg hm ?_ hdb) hc
  refine PySem.W.method_cls I.kIn gt (PySem.W.cls_value I.kIn rd vV c1 ?_)
  show wpAny _ _ (callWith pos (Value.builtin initId) [] (backTo pos (starEach (e :: es) X.env)) []) _ _ _
  refine PyProof.Rows.callWith_method1 (thn (ha.run pos pins _ σ H _ (I.tok _) h) ?_) he hpl
  rintro us s1 ⟨vs, H1, I1, r1, a, C, ws, rfl, few, T, ea, q⟩
  cases r1 with
  | cons ra rw' =>
    cases ra
    refine base_init T I1 ea ?_ fun s' J => ⟨.non, H1, J, rfl, q⟩
    rw [← Paired.length rw', sizeLine_eq]
    omega
variable {k : Nat} {fI : Addr} {fd : FuncData} {ps : List Str} {sp : Sp} {dvs : List V} {E : L2.St → XK} {pins : List (Addr × Obj)} {σ : L2.St} {H : Hp} {s : Shared} {Q : VK}
theorem runMX {vs : Addr → List V} (M : Mk X.K C fI) (F : Fg X k fI fd ps sp)
    (z : RoomG (k + 1) X.A) (hx : PsAt X E) (I : Inv X pins σ H s) {us0 : List Value} {kw : List (Str × Value)}
    {us : Addr → List Value} (hb : ∀ (s : Shared) (x : Addr), X.K.In s.heap → BindsTo s fd ⟨.ref x :: us0, kw⟩ (ps.zip (us x)))
    (h : Made C sp (E σ) H Q vs)
    (rv : ∀ x, Vals (vs x) (us x)) :
    wpAny (model X.prog X.w) X.A (call (.ref C) us0 kw) (EP X pins σ Q) X.xe s := by
  have hq := h (s.heap.objs.size + 1) s.heap.objs.size (I.hok.fresh (Nat.le_succ _)) (I.hok.fresh (Nat.le_refl _))
    (Nat.ne_of_lt (Nat.lt_succ_self _))
  have I2 := Inv.made (C := C) I
  refine wpAny_call (make_map (f := fI) I.kIn M.makes M.init (beq_iff_eq.mp M.fn) (codeAny_mono
    (F.run _ X.stack _ _ ⟨.ref (s.heap.objs.size + 1) :: us0, kw⟩ _ _ _ (E σ) (z.make C us0 kw)
      (I2.env0.make C us0 kw) (hb _ _ I2.kIn) (rv _) hq) ?_))
  intro r s' q
  match r, q with
  | .error e, q => exact hx σ pins _ _ e s' I2 q
  | .ok (.ret u), q =>
    obtain ⟨v, H', I3, rv, ev, q3⟩ := I2.after q
    subst ev
    exact ⟨rv, ⟨V.ref (s.heap.objs.size + 1), H', I3, rfl, q3⟩⟩
  | .ok .next, q => exact False.elim q
  | .ok .brk, q => exact False.elim q
  | .ok .cont, q => exact False.elim q
def tMkX (C : Addr) (sp : Sp) (dvs : List V) (E : L2.St → XK) (t : TA) : TE := fun σ H Q => t σ H fun vs H1 =>
  Made C sp (E σ) H1 Q fun x => .ref x :: (vs ++ dvs)
theorem mkX (M : Mk X.K C fI) (F : Fg X k fI fd ps sp) (z : RoomG (k + 1) X.A) (hg : Gl X x)
    (hm : X.mg x = some (.ref C)) (hb : BindsD X.K fd ps dvs) (hx : PsAt X E) (ha : PA X (e :: es) t)
    (hdb : (x == ("__debug__" : Str)) = false := by decide)
    (he : starEach (e :: es) X.env = (false, eval e X.env) :: starEach es X.env := by rfl)
    (hpl : (backTo pos (starEach es X.env)).any (·.1) = false := by rfl) :
    PE X (.Call (.Name x p) (e :: es) [] pos) (tMkX C sp dvs E t) := by
  obtain ⟨ds, hd, hb⟩ := hb
  constructor
  intro pins s σ H Q I h
  refine wpAny_Call_Name_kw (ld_glob I hg hm ?_ hdb)
  refine PySem.W.callWith_K (h₀ := X.base) I.ok.mod.kin M.kp ?_ he hpl
  refine thn (ha.run pos pins s σ H _ I h) ?_
  intro us s1 y
  obtain ⟨vs, H1, I1, r, q⟩ := y
  refine ⟨I1.kIn, ?_⟩
  obtain ⟨x0, hl⟩ := made_len F I1 q
  refine runMX (us := fun x => .ref x :: (us ++ ds)) M F z hx I1 ?_ q (fun x => .cons rfl (r.append hd))
  intro s2 x2 kin
  refine hb s2 (.ref x2 :: us) kin ?_
  rw [← hl]
  have e1 := r.length
  have e2 := hd.length
  simp only [List.length_cons, List.length_append, List.cons_append] at *
  omega
theorem i_mkX {t : TA} (h : t σ H fun vs H1 => Made C sp (E σ) H1 Q fun x => .ref x :: (vs ++ dvs)) : tMkX C sp dvs E t σ H Q := h
end

/-! ### a dict of the top: texts by texts -/
section
open PySem.Calls PyProof.Rows PySem.Spec PySem.W
structure TabD (K : PySem.W.Frag) (w : World) (a : Addr) (kvs : List (Str × Str)) : Prop where
  d : ∃ es n, KDict K w a es n ∧ es.toList.map He.keyOf = He.keysIn w.params (kvs.map (·.1))
  v : ∀ q ∈ kvs, ∃ u, nsIn K a q.1 = some (some u) ∧ RelV (.str q.2) u
theorem tabD_ok {K : PySem.W.Frag} {w : World} {a : Addr} {kvs : List (Str × Str)} (h : He.dicW K a = some (He.keysIn w.params (kvs.map (·.1)))) (hv : He.valsB K a (kvs.map fun q => (q.1, He.Dv.str q.2)) = true) : TabD K w a kvs := by
  obtain ⟨es, n, D⟩ := He.dicW_ok h
  refine ⟨⟨es, n, D, ?_⟩, fun q hq => ?_⟩
  · unfold He.dicW at h
    rw [D.at_] at h
    simp only [D.low] at h
    exact Option.some.inj h
  · exact He.valsB_ok hv (q := (q.1, He.Dv.str q.2)) (List.mem_map.mpr ⟨q, hq, rfl⟩)
theorem keys_miss {P : Params} {z : Str} : ∀ {l : List DictEntry} {ks : List Str}, l.map He.keyOf = He.keysIn P ks → z ∉ ks → l.find? (·.key.isStr z) = none ∧ l.any (·.refKey) = false
  | [], _, _, _ => ⟨rfl, rfl⟩
  | e :: r, [], h, _ => by cases h
  | e :: r, k :: ks, h, n => by
    have h1 : He.keyOf e :: r.map He.keyOf = some (k, PyData.keyHash P k) :: He.keysIn P ks := h
    injection h1 with h2 h3
    obtain ⟨i1, i2⟩ := keys_miss (z := z) h3 fun m => n (List.mem_cons_of_mem _ m)
    unfold He.keyOf at h2
    split at h2
    · rename_i x t q
      have h4 := Option.some.inj h2
      obtain ⟨h5, h6⟩ := Prod.mk.inj h4
      have nz : x ≠ z := fun e => n (by rw [← e, h5]; exact List.mem_cons_self)
      refine ⟨?_, ?_⟩
      · rw [List.find?_cons_of_neg, i1]
        rw [q]
        show ¬ ((x == z) = true)
        rw [beq_iff_eq]
        exact nz
      · rw [List.any_cons, i2, Bool.or_false]
        unfold DictEntry.refKey
        rw [q]
    · cases h2
theorem TabD.miss {K : PySem.W.Frag} {w : World} {a : Addr} {kvs : List (Str × Str)} (T : TabD K w a kvs) {z : Str} (h : z ∉ kvs.map (·.1)) : nsIn K a z = some none := by
  obtain ⟨es, n, D, hk⟩ := T.d
  obtain ⟨h1, h2⟩ := keys_miss hk h
  unfold nsIn
  rw [D.at_]
  simp only [h1, h2]
  rfl
def rNotInT (a : Addr) (kvs : List (Str × Str)) : R2 := fun x y H Q => ∃ z : Str, x = .str z ∧ y = .ref a ∧ Q (.bl (decide (z ∉ kvs.map (·.1)))) H
def rInT (a : Addr) (kvs : List (Str × Str)) : R2 := fun x y H Q => ∃ z : Str, x = .str z ∧ y = .ref a ∧ Q (.bl (decide (z ∈ kvs.map (·.1)))) H
def rItemT (a : Addr) (kvs : List (Str × Str)) : R2 := fun x y H Q => ∃ z s : Str, x = .ref a ∧ y = .str z ∧ (z, s) ∈ kvs ∧ Q (.str s) H
variable {X : Cx} {a : Addr} {kvs : List (Str × Str)}
theorem op_notInT (T : TabD X.K X.w a kvs) : OpR X (compareOp .NotIn) (rNotInT a kvs) := by
  obtain ⟨es, n, D, hk⟩ := id T.d
  intro pins s σ H x y v u Q I rx ry h
  obtain ⟨z, ex, ey, q⟩ := h
  by_cases c : z ∈ kvs.map (·.1)
  · obtain ⟨p, hp, e⟩ := List.mem_map.mp c
    obtain ⟨u0, hu, _⟩ := T.v p hp
    have e : p.1 = z := e
    rw [e] at hu
    exact op_notIn_kd D pins s σ H x y v u Q I rx ry ⟨z, _, ex, ey, hu, by rw [decide_eq_false (fun f => f c)] at q; exact q⟩
  · exact op_notIn_kd D pins s σ H x y v u Q I rx ry ⟨z, _, ex, ey, T.miss c, by rw [decide_eq_true c] at q; exact q⟩
theorem op_inT (T : TabD X.K X.w a kvs) : OpR X (compareOp .In) (rInT a kvs) := by
  obtain ⟨es, n, D, hk⟩ := id T.d
  intro pins s σ H x y v u Q I rx ry h
  obtain ⟨z, ex, ey, q⟩ := h
  by_cases c : z ∈ kvs.map (·.1)
  · obtain ⟨p, hp, e⟩ := List.mem_map.mp c
    obtain ⟨u0, hu, _⟩ := T.v p hp
    have e : p.1 = z := e
    rw [e] at hu
    exact op_in_kd D pins s σ H x y v u Q I rx ry ⟨z, _, ex, ey, hu, by rw [decide_eq_true c] at q; exact q⟩
  · exact op_in_kd D pins s σ H x y v u Q I rx ry ⟨z, _, ex, ey, T.miss c, by rw [decide_eq_false c] at q; exact q⟩
theorem op_itemT (T : TabD X.K X.w a kvs) : OpR X getItem (rItemT a kvs) := by
  obtain ⟨es, n, D, hk⟩ := id T.d
  intro pins s σ H x y v u Q I rx ry h
  obtain ⟨z, t, ex, ey, m, q⟩ := h
  obtain ⟨u0, hu, r⟩ := T.v _ m
  exact op_item_kd D pins s σ H x y v u Q I rx ry ⟨z, u0, _, ex, ey, hu, r, q⟩
theorem ix_itemT (T : TabD X.K X.w a kvs) : IxR X (rItemT a kvs) := by
  obtain ⟨es, n, D, hk⟩ := id T.d
  intro value slice pins s σ H x y v u Q I rx ry h hs
  obtain ⟨z, t, ex, ey, m, q⟩ := h
  obtain ⟨u0, hu, r⟩ := T.v _ m
  exact ix_kdict value slice pins s σ H x y v u Q I rx ry ⟨a, z, _, ex, ey, ⟨es, n, u0, D.at_, D.lit, hu, r⟩, q⟩ hs
end

/-! ### a, *rest = a tuple or a list -/
section
open PySem.Calls PySem.Spec PyProof.Rows PySem.W
section
variable {prog : Program} {w : World} {A : Around} {E : Value → Shared → Prop} {s : Shared}
theorem star_T {l : Addr} {items : Array Value} {i : Nat} {Q : List Value → Shared → Prop} (hl : PyProof.Rows.IsTup s.heap l items) (hh : A.handled = none) (hi : i ≤ items.size) (hz : items.size ≤ 16384)
    (h : ∀ h' tk, Heap.ExtBut s.heap.objs.size s.heap h' → Q (items.toList.take i ++ [.ref h'.objs.size]) { s with heap := h'.push (seqObj "list" (items.toList.drop i).toArray 0), toks := tk }) : wpAny (model prog w) A (unpackItems (.ref l) (i + 1) (some i)) Q E s := by
  have hlt : l ≠ s.heap.objs.size := by obtain ⟨o, ho, _⟩ := hl; exact Nat.ne_of_lt (Heap.lt_size ho)
  unfold unpackItems
  refine wpAny_bind ?_
  unfold notIterableAtAll
  refine wpAny_bind (wpAny_specialOf hl.typeIs slot_tuple_iter.lookup ?_)
  refine wpAny_pure ?_
  simp only [Bool.false_eq_true, if_false]
  refine wpAny_bind (wpAny_holding (iter_tuple hl ?_))
  refine wpAny_bind (wpAny_holding (draw_tuple hlt i 0 _ _ ⟨_, Heap.get?_push_size _ rfl, rfl, rfl⟩ (hl.push _) (by omega) fun h₁ hit₁ hs₁ => ?_))
  have hl₁ : PyProof.Rows.IsTup h₁ l items := (hl.push _).extBut hs₁.extBut hlt
  rw [Nat.zero_add] at hit₁
  have hit₁' := hit₁
  obtain ⟨oi, hoi, _⟩ := hit₁'
  have hl₁' := hl₁
  obtain ⟨ol, hol, _⟩ := hl₁'
  rw [List.drop_zero]
  have hfl : (items.toList.take i).length = i := by rw [List.length_take, Array.length_toList]; omega
  rw [if_neg (show ¬ ((items.toList.take i).length < i) by rw [hfl]; omega)]
  refine wpAny_bind (wpAny_holding (kun_collect (s := { s with heap := h₁ }) (T := "tuple_iterator") (.inr (.inr (.inr rfl))) (Walks.tuple (A := A.in1) hh s.heap.objs.size l hlt items) (fun j u st => st.1.typeIs) (k := i) (by omega) ⟨hit₁, hl₁⟩ (Heap.lt_size hoi) (Heap.lt_size hol) (fun h₂ tk hk => ?_) (by rw [sizeLine_eq]; omega)))
  have hrl : (items.toList.drop i).length = items.size - i := by rw [List.length_drop, Array.length_toList]
  have hmid : (items.toList.drop i).length - (i + 1 - 1 - i) = (items.toList.drop i).length := by omega
  show wpAny _ _ (if (items.toList.drop i).length < i + 1 - 1 - i then _ else _) _ _ _
  rw [if_neg (by omega)]
  show wpAny _ _ (newList ((items.toList.drop i).take ((items.toList.drop i).length - (i + 1 - 1 - i))) >>= fun d => pure (items.toList.take i ++ [d] ++ (items.toList.drop i).drop ((items.toList.drop i).length - (i + 1 - 1 - i)))) _ _ _
  rw [hmid, List.take_length, List.drop_length]
  have he : Heap.ExtBut s.heap.objs.size s.heap h₂ := fun b o hb e => hk b o hb (hs₁.extBut b o hb (Heap.get?_push_of_some _ e))
  refine wpAny_bind (wpAny_newList ?_ (by rw [hrl, sizeLine_eq]; omega))
  refine wpAny_pure ?_
  rw [List.append_nil]
  exact h h₂ tk he
theorem star_L {l : Addr} {items : Array Value} {i : Nat} {Q : List Value → Shared → Prop} (hl : s.heap.IsList l items) (hh : A.handled = none) (hi : i ≤ items.size) (hz : items.size ≤ 16384)
    (h : ∀ h' tk, Heap.ExtBut s.heap.objs.size s.heap h' → Q (items.toList.take i ++ [.ref h'.objs.size]) { s with heap := h'.push (seqObj "list" (items.toList.drop i).toArray 0), toks := tk }) : wpAny (model prog w) A (unpackItems (.ref l) (i + 1) (some i)) Q E s := by
  have hlt : l ≠ s.heap.objs.size := by obtain ⟨o, ho, _⟩ := hl; exact Nat.ne_of_lt (Heap.lt_size ho)
  unfold unpackItems
  refine wpAny_bind ?_
  unfold notIterableAtAll
  refine wpAny_bind (wpAny_specialOf hl.typeIs slot_list_iter.lookup ?_)
  refine wpAny_pure ?_
  simp only [Bool.false_eq_true, if_false]
  refine wpAny_bind (wpAny_holding (wpAny_pyIter_list hl ?_))
  refine wpAny_bind (wpAny_holding (kun_draw hlt i 0 _ _ ⟨_, Heap.get?_push_size _ rfl, rfl, rfl⟩ (hl.push _) (by omega) fun h₁ hit₁ hs₁ => ?_))
  have hl₁ : h₁.IsList l items := (hl.push _).extBut hs₁.extBut hlt
  rw [Nat.zero_add] at hit₁
  have hit₁' := hit₁
  obtain ⟨oi, hoi, _⟩ := hit₁'
  have hl₁' := hl₁
  obtain ⟨ol, hol, _⟩ := hl₁'
  rw [List.drop_zero]
  have hfl : (items.toList.take i).length = i := by rw [List.length_take, Array.length_toList]; omega
  rw [if_neg (show ¬ ((items.toList.take i).length < i) by rw [hfl]; omega)]
  refine wpAny_bind (wpAny_holding (kun_collect (s := { s with heap := h₁ }) (T := "list_iterator") (.inr (.inr (.inl rfl))) (Walks.list (A := A.in1) hh s.heap.objs.size l hlt items) (fun j u st => st.1.typeIs) (k := i) (by omega) ⟨hit₁, hl₁⟩ (Heap.lt_size hoi) (Heap.lt_size hol) (fun h₂ tk hk => ?_) (by rw [sizeLine_eq]; omega)))
  have hrl : (items.toList.drop i).length = items.size - i := by rw [List.length_drop, Array.length_toList]
  have hmid : (items.toList.drop i).length - (i + 1 - 1 - i) = (items.toList.drop i).length := by omega
  show wpAny _ _ (if (items.toList.drop i).length < i + 1 - 1 - i then _ else _) _ _ _
  rw [if_neg (by omega)]
  show wpAny _ _ (newList ((items.toList.drop i).take ((items.toList.drop i).length - (i + 1 - 1 - i))) >>= fun d => pure (items.toList.take i ++ [d] ++ (items.toList.drop i).drop ((items.toList.drop i).length - (i + 1 - 1 - i)))) _ _ _
  rw [hmid, List.take_length, List.drop_length]
  have he : Heap.ExtBut s.heap.objs.size s.heap h₂ := fun b o hb e => hk b o hb (hs₁.extBut b o hb (Heap.get?_push_of_some _ e))
  refine wpAny_bind (wpAny_newList ?_ (by rw [hrl, sizeLine_eq]; omega))
  refine wpAny_pure ?_
  rw [List.append_nil]
  exact h h₂ tk he
end
variable {X : Cx} {pos : Pos}
def gStar1 (K : PySem.W.Frag) (t : TGs) : TG := fun v σ H Q => ∃ (a : Addr) (x : V) (xs : List V), v = .ref a ∧ (SqT K H a (x :: xs) ∨ SqL K H a (x :: xs)) ∧ xs.length ≤ 16000 ∧ ∀ p, Fr H p → t [x, .ref p] σ (upd H p (.lst xs)) Q
theorem pgs_star {e : Expr} {es : List Expr} {p : Pos} {t : TG} {u : TGs} (h1 : PG X e t) (h2 : PGs X es u)
    (hs : (assignEach (.Starred e p :: es) X.env).map (·.2) = assign e X.env :: (assignEach es X.env).map (·.2) := by rfl) : PGs X (.Starred e p :: es) (gCons t u) := by
  refine ⟨fun pins s σ H vs us Q I r h => ?_⟩
  obtain ⟨v, vr, e1, h⟩ := h
  subst e1
  cases r with
  | cons r rr =>
    rw [hs]
    refine assignInOrder_cons (thn (h1.run pins s σ H _ _ _ I r h) fun _ s1 ⟨σ1, H1, I1, q1⟩ => ?_)
    exact h2.run pins s1 σ1 H1 _ _ Q I1 rr q1
theorem pg_star1 {es : List Expr} {k : Nat} {t : TGs} (hc : X.calm = true) (h : PGs X es t)
    (hn : (assignEach es X.env).length = 2 := by rfl) (hst : (assignEach es X.env).findIdx? (·.1) = some 1 := by rfl) : PG X (.Tuple es k pos) (gStar1 X.K t) := by
  refine ⟨fun pins s σ H v u Q I r hw => ?_⟩
  obtain ⟨a, x, xs, e1, hq, hl, hw⟩ := hw
  subst e1
  cases r
  rw [PyProof.Rows.assign_Tuple]
  refine wpAny_bind (wpAny_standAt ?_)
  unfold unpack
  rw [hn, hst]
  have fin : ∀ (its : List Value) (h' : Heap) (tk : Nat), Vals (x :: xs) its → Heap.ExtBut s.heap.objs.size s.heap h' → wpAny (model X.prog X.w) X.A (assignInOrder ((assignEach es X.env).map (·.2)) (its.toArray.toList.take 1 ++ [.ref h'.objs.size])) (fun _ s' => ∃ σ' H', Inv X pins σ' H' s' ∧ Q σ' H') X.xe { s with heap := h'.push (seqObj "list" (its.toArray.toList.drop 1).toArray 0), toks := tk } := by
    intro its h' tk rv hx
    cases rv with
    | @cons _ y _ ys r rr =>
    have I1 : Inv X pins σ H { s with heap := h', toks := tk } := I.kept fun b o e => hx b o (Nat.ne_of_lt (Heap.lt_size e)) e
    have hlen : xs.length ≤ sizeLine := by rw [sizeLine_eq]; omega
    have I2 : Inv X pins σ (upd H h'.objs.size (.lst xs)) { s with heap := h'.push (seqObj "list" ys.toArray 0), toks := tk } :=
      I1.laid (t' := tk) (fun b u e => Heap.get?_push_of_some _ e) (Nat.le_refl _) (show ObjOk X.prog X.w _ _ _ (.lst xs) from ⟨hlen, ys, 0, rr, Heap.get?_push_size _ rfl⟩)
    refine h.run pins _ σ _ [x, .ref h'.objs.size] _ Q I2 ?_ (hw _ ⟨I1.hok.fresh (Nat.le_refl _)⟩)
    exact .cons r (.cons rfl .nil)
  rcases hq with hq | hq
  · obtain ⟨its, rv, ht, hz⟩ := I.tuple hq
    have hsz := rv.length
    rw [List.length_cons] at hsz
    refine wpAny_bind (wpAny_holding (star_T (i := 1) ht (I.ok.hd hc) (by simp; omega) (by simp; omega) fun h' tk hx => ?_))
    exact fin its h' tk rv hx
  · obtain ⟨its, rv, ht, hz⟩ := I.list hq
    have hsz := rv.length
    rw [List.length_cons] at hsz
    refine wpAny_bind (wpAny_holding (star_L (i := 1) ht.isList (I.ok.hd hc) (by simp; omega) (by simp; omega) fun h' tk hx => ?_))
    exact fin its h' tk rv hx
theorem k_gstar {K : PySem.W.Frag} {es : List Expr} {k : Nat} {t : TGs} (hK : X.K = K) (hc : X.calm = true) (h : PGs X es t)
    (hn : (assignEach es X.env).length = 2 := by rfl) (hst : (assignEach es X.env).findIdx? (·.1) = some 1 := by rfl) : PG X (.Tuple es k pos) (gStar1 K t) := hK ▸ pg_star1 hc h hn hst
theorem i_star {K : PySem.W.Frag} {a : Addr} {x : V} {xs : List V} {t : TGs} {σ : L2.St} {H : Hp} {Q : L2.St → Hp → Prop} (hq : SqT K H a (x :: xs) ∨ SqL K H a (x :: xs)) (hl : xs.length ≤ 16000) (h : ∀ p, Fr H p → t [x, .ref p] σ (upd H p (.lst xs)) Q) : gStar1 K t (.ref a) σ H Q := ⟨a, x, xs, rfl, hq, hl, h⟩
end

/-! ### zip over two of any kind (list, tuple, text), the pairs unpacked -/
section
open PySem.Calls PyProof.Rows PySem.Spec PyProof PySem.W
inductive ZKd
  | lst
  | tup
  | txt
def signs (z : Str) : List V := z.cps.toList.map fun c => V.str ⟨#[c]⟩
def SqX (K : PySem.W.Frag) : ZKd → Hp → V → List V → Prop
  | .lst, H, x, xs => ∃ a, x = .ref a ∧ SqL K H a xs
  | .tup, H, x, xs => ∃ a, x = .ref a ∧ SqT K H a xs
  | .txt, _, x, xs => ∃ z, x = .str z ∧ xs = signs z
/-- the iterator of u at it, behind i of it -/
def StX' (k : ZKd) (h : Heap) (it : Addr) (u : Value) (i : Nat) : Prop := match k with
  | .lst => ∃ a, u = .ref a ∧ h.IsListIter it a i
  | .tup => ∃ a, u = .ref a ∧ h.IsTupleIter it a i
  | .txt => ∃ z t, u = .str z t ∧ h.IsStrIter it (strIterType z) z t i
theorem StX'.at {k : ZKd} {h g : Heap} {it : Addr} {u : Value} {i : Nat} (q : StX' k h it u i) (e : ∀ o, h.get? it = some o → g.get? it = some o) : StX' k g it u i := by
  cases k with
  | lst => obtain ⟨a, e1, q⟩ := q; exact ⟨a, e1, Heap.IsListIter.at q e⟩
  | tup => obtain ⟨a, e1, q⟩ := q; exact ⟨a, e1, Heap.IsTupleIter.at q e⟩
  | txt => obtain ⟨z, t, e1, o, ho, r⟩ := q; exact ⟨z, t, e1, o, e o ho, r⟩
theorem StX'.obj {k : ZKd} {h : Heap} {it : Addr} {u : Value} {i : Nat} (q : StX' k h it u i) : ∃ o, h.get? it = some o ∧ ∀ v, o.data ≠ .cell v := by
  cases k with
  | lst =>
    obtain ⟨a, _, o, e, _, d⟩ := q
    exact ⟨o, e, fun v e => by rw [d] at e; cases e⟩
  | tup =>
    obtain ⟨a, _, o, e, _, d⟩ := q
    exact ⟨o, e, fun v e => by rw [d] at e; cases e⟩
  | txt =>
    obtain ⟨z, t, _, o, e, _, d⟩ := q
    exact ⟨o, e, fun v e => by rw [d] at e; cases e⟩
/-- where u lies -/
def adrs : Value → List Addr
  | .ref a => [a]
  | _ => []
/-- an iterator's draws, by what the view has -/
theorem srcX {X : Cx} {pins : List (Addr × Obj)} {σ : L2.St} {H : Hp} {s : Shared} {A : Around} {k : ZKd} {x : V} {xs : List V} {u : Value} {it : Addr} (I : Inv X pins σ H s) (hh : A.handled = none) (q : SqX X.K k H x xs) (r : RelV x u) (ne : it ∉ adrs u) :
    ∃ (P : Nat → Value → Prop) (St : Nat → Heap → Prop), Draws X.prog X.w A it (it :: adrs u) xs.length P St ∧ (∀ i, StX' k s.heap it u i → St i s.heap) ∧ (∀ i h, St i h → StX' k h it u i) ∧ ∀ i v y, P i v → xs[i]? = some y → RelV y v := by
  cases k with
  | lst =>
    obtain ⟨a, rfl, hq⟩ := q
    cases (show u = Value.ref a from r)
    obtain ⟨its, rv, p, _⟩ := I.list hq
    have ne' : a ≠ it := fun e => ne (by rw [← e]; exact List.mem_cons_self)
    refine ⟨fun i v => its.toArray[i]? = some v, fun i h => h.IsListIter it a i ∧ h.IsList a its.toArray, by have D := Draws.list (prog := X.prog) (w := X.w) hh it a ne' its.toArray; rw [List.size_toArray, ← rv.length] at D; exact D, fun i st => ?_, fun i h st => ⟨a, rfl, st.1⟩, fun i v y hv hy => ?_⟩
    · obtain ⟨a', e, st⟩ := st
      cases e
      exact ⟨st, p.isList⟩
    · obtain ⟨v', hv', rr⟩ := rv.get hy
      have hv : its.toArray[i]? = some v := hv
      rw [List.getElem?_toArray, hv'] at hv
      cases hv
      exact rr
  | tup =>
    obtain ⟨a, rfl, hq⟩ := q
    cases (show u = Value.ref a from r)
    obtain ⟨its, rv, p, _⟩ := I.tuple hq
    have ne' : a ≠ it := fun e => ne (by rw [← e]; exact List.mem_cons_self)
    refine ⟨fun i v => its.toArray[i]? = some v, fun i h => h.IsTupleIter it a i ∧ h.IsTuple a its.toArray, by have D := Draws.tuple (prog := X.prog) (w := X.w) hh it a ne' its.toArray; rw [List.size_toArray, ← rv.length] at D; exact D, fun i st => ?_, fun i h st => ⟨a, rfl, st.1⟩, fun i v y hv hy => ?_⟩
    · obtain ⟨a', e, st⟩ := st
      cases e
      exact ⟨st, p⟩
    · obtain ⟨v', hv', rr⟩ := rv.get hy
      have hv : its.toArray[i]? = some v := hv
      rw [List.getElem?_toArray, hv'] at hv
      cases hv
      exact rr
  | txt =>
    obtain ⟨z, rfl, rfl⟩ := q
    obtain ⟨t, rfl⟩ := (show ∃ t, u = Value.str z t from r)
    refine ⟨fun i v => ∃ c u, z.cps[i]? = some c ∧ v = .str ⟨#[c]⟩ u, fun i h => h.IsStrIter it (strIterType z) z t i, by have D := Draws.text (prog := X.prog) (w := X.w) hh it z t; rw [show z.cps.size = (signs z).length by unfold signs; simp] at D; exact D, fun i st => ?_, fun i h st => ⟨z, t, rfl, st⟩, fun i v y hv hy => ?_⟩
    · obtain ⟨z', t', e, st⟩ := st
      cases e
      exact st
    · obtain ⟨c, u', hc, rfl⟩ := hv
      unfold signs at hy
      rw [List.getElem?_map, Array.getElem?_toList, hc] at hy
      cases hy
      exact ⟨u', rfl⟩
theorem SqX.inj {X : Cx} {pins : List (Addr × Obj)} {σ : L2.St} {H : Hp} {s : Shared} {k : ZKd} {x : V} {xs ys : List V} (I : Inv X pins σ H s) (q : SqX X.K k H x xs) (q' : SqX X.K k H x ys) : xs = ys := by
  cases k with
  | lst =>
    obtain ⟨a, rfl, h⟩ := q
    obtain ⟨b, e, h'⟩ := q'
    cases e
    exact I.list_inj h h'
  | tup =>
    obtain ⟨a, rfl, h⟩ := q
    obtain ⟨b, e, h'⟩ := q'
    cases e
    exact I.tuple_inj h h'
  | txt =>
    obtain ⟨a, rfl, h⟩ := q
    obtain ⟨b, e, h'⟩ := q'
    cases e
    rw [h, h']
def ItzX (K : PySem.W.Frag) (k1 k2 : ZKd) (x y : V) : It :=
  ⟨fun i H => ∃ (xs ys : List V) (u v : V), SqX K k1 H x xs ∧ SqX K k2 H y ys ∧ xs[i]? = some u ∧ ys[i]? = some v,
    fun i H v H' => ∃ T u w, v = .ref T ∧ H T = none ∧ H' = upd H T (.tup [u, w]) ∧ (∀ xs, SqX K k1 H x xs → xs[i]? = some u) ∧ ∀ ys, SqX K k2 H y ys → ys[i]? = some w,
    fun i H => ∃ xs ys : List V, SqX K k1 H x xs ∧ SqX K k2 H y ys ∧ (xs.length = i ∧ i ≤ ys.length ∨ ys.length = i ∧ i ≤ xs.length)⟩
theorem turn_zipX {P : Program} {w : World} {K : PySem.W.Frag} {elts : List Expr} {kk : Nat} {tpos : Pos} {k1 k2 : ZKd} {x y : V} {u1 u2 : Value} {z TI TO i1 i2 : Addr} (r1 : RelV x u1) (r2 : RelV y u2) (D : ZipSep2 z TI TO i1 i2 (i1 :: adrs u1) (i2 :: adrs u2)) (n1 : i1 ∉ adrs u1) (n2 : i2 ∉ adrs u2) :
    Turn P w K (.Tuple elts kk tpos) (ItzX K k1 k2 x y) [z, TI, TO, i1, i2] z (fun i h => IsZip h z TI TO .none ∧ IsTupOf2 h TI (.ref i1) (.ref i2) ∧ (∃ x y, IsTupOf2 h TO x y) ∧ StX' k1 h i1 u1 i ∧ StX' k2 h i2 u2 i) where
  mem := by simp
  obj := fun i h st c hc => by
    obtain ⟨hz, hTI, ⟨x, y, hTO⟩, h1, h2⟩ := st
    have e' : c = z ∨ c = TI ∨ c = TO ∨ c = i1 ∨ c = i2 := by simpa using hc
    rcases e' with q | q | q | q | q
    · rw [q]; exact ⟨_, hz, fun v q => nomatch q⟩
    · rw [q]; exact ⟨_, hTI, fun v q => nomatch q⟩
    · rw [q]; exact ⟨_, hTO, fun v q => nomatch q⟩
    · rw [q]; exact h1.obj
    · rw [q]; exact h2.obj
  keep := fun i h h' st k => by
    obtain ⟨hz, hTI, ⟨x, y, hTO⟩, h1, h2⟩ := st
    exact ⟨k z (by simp) _ hz, k TI (by simp) _ hTI, ⟨x, y, k TO (by simp) _ hTO⟩, h1.at fun o q => k i1 (by simp) o q, h2.at fun o q => k i2 (by simp) o q⟩
  item := by
    intro X hP hw hK hc i pins s σ H E I hf st hg
    subst hP hw hK
    obtain ⟨hz, hTI, ⟨x0, y0, hTO⟩, h1, h2⟩ := st
    obtain ⟨xs, ys, xv, yv, hqx, hqy, hx, hy⟩ := hg
    obtain ⟨P1, St1, D1, g1, b1, p1⟩ := srcX (A := X.A.in1) I (I.ok.hd hc) hqx r1 n1
    obtain ⟨P2, St2, D2, g2, b2, p2⟩ := srcX (A := X.A.in1) I (I.ok.hd hc) hqy r2 n2
    have lx := (List.getElem?_eq_some_iff.mp hx).1
    have ly := (List.getElem?_eq_some_iff.mp hy).1
    have hzl : z < s.heap.objs.size := Heap.lt_size hz
    refine wpAny_pyNext_zipD2_item D D1 D2 hz hTI hTO (g1 _ h1) (g2 _ h2) lx ly fun v1 v2 h' tk y1 y2 z' TO' d1 d2 hT hsz hk => ?_
    refine ⟨_, rfl, wpAny_letOwnedTupleGo_zip (s := { s with heap := h', toks := tk }) z' fun h'' z'' sb => ?_⟩
    have ru := p1 _ _ _ y1 hx
    have rw' := p2 _ _ _ y2 hy
    have hT2 : h''.get? s.heap.objs.size = some { cls := .type "tuple", data := .seq #[v1, v2] } := (sb.2 _ (Nat.ne_of_gt hzl)).trans hT
    have new : ObjOk X.prog X.w (upd H s.heap.objs.size (.tup [xv, yv])) h'' s.heap.objs.size (.tup [xv, yv]) :=
      ⟨by show 2 ≤ sizeLine; decide, [v1, v2], .cons ru (.cons rw' .nil), ⟨_, hT2, rfl, _, rfl⟩⟩
    have I1 : Inv X pins σ (upd H s.heap.objs.size (.tup [xv, yv])) { s with heap := h'', toks := tk } :=
      I.turnedNew (t' := tk) (ch := [z, TI, TO, i1, i2]) (fun c o hb q => (sb.2 c (fun q' => hb (by simp [q']))).trans (hk c o (fun q' => hb (by simp [q'])) (fun q' => hb (by simp [q'])) (fun q' => hb (by simp [q'])) (fun q' => hb (by simp [q'])) q)) hf (Nat.le_refl _) new
    have zi1 : i1 ≠ z := fun e => D.zf1 (by rw [← e]; exact D.mem1)
    have zi2 : i2 ≠ z := fun e => D.zf2 (by rw [← e]; exact D.mem2)
    refine ⟨.ref s.heap.objs.size, _, I1, rfl, ⟨_, xv, yv, rfl, I.hok.fresh (Nat.le_refl _), rfl, fun l hl => by rw [SqX.inj I hl hqx]; exact hx, fun l hl => by rw [SqX.inj I hl hqy]; exact hy⟩, ⟨z'', ?_, ⟨v1, v2, ?_⟩, ?_, ?_⟩, fun c hcm => ?_⟩
    · exact (sb.2 _ D.TIz).trans (hk _ _ D.TIz D.TITO D.TIi1 D.TIi2 hTI)
    · exact (sb.2 _ D.TOz).trans TO'
    · exact (b1 _ _ d1).at fun o q => (sb.2 _ zi1).trans q
    · exact (b2 _ _ d2).at fun o q => (sb.2 _ zi2).trans q
    · have hlt : c < s.heap.objs.size := by
        have e' : c = z ∨ c = TI ∨ c = TO ∨ c = i1 ∨ c = i2 := by simpa using hcm
        rcases e' with q | q | q | q | q
        · rw [q]; exact hzl
        · rw [q]; exact Heap.lt_size hTI
        · rw [q]; exact Heap.lt_size hTO
        · rw [q]; obtain ⟨_, e1, _⟩ := h1.obj; exact Heap.lt_size e1
        · rw [q]; obtain ⟨_, e2, _⟩ := h2.obj; exact Heap.lt_size e2
      rw [upd_ne (Nat.ne_of_lt hlt)]
      exact (hf c hcm).1
  done := by
    intro X hP hw hK hc i pins s σ H E I hf st hg
    subst hP hw hK
    obtain ⟨hz, hTI, ⟨x0, y0, hTO⟩, h1, h2⟩ := st
    obtain ⟨xs, ys, hqx, hqy, hend⟩ := hg
    obtain ⟨P1, St1, D1, g1, b1, p1⟩ := srcX (A := X.A.in1) I (I.ok.hd hc) hqx r1 n1
    obtain ⟨P2, St2, D2, g2, b2, p2⟩ := srcX (A := X.A.in1) I (I.ok.hd hc) hqy r2 n2
    exact wpAny_pyNext_zipD2_end D D1 D2 hz hTI hTO (g1 _ h1) (g2 _ h2) (by omega) (by omega) (by omega) fun h' tk hk => ⟨rfl, I.turnedL (t' := tk) (ch := [z, TI, TO, i1, i2]) (fun c o hb q =>
      hk c o (fun q' => hb (by simp [q'])) (fun q' => hb (by simp [q'])) (fun q' => hb (by simp [q'])) (fun q' => hb (by simp [q'])) q) hf⟩
  self := fun A i s Q E st h => wpAny_pyIter_zip st.1 h
def iZipX (K : PySem.W.Frag) (ta : TA) : TI := fun σ H R => ta σ H fun vs H1 => ∃ k1 k2 x y xs ys, vs = [x, y] ∧ SqX K k1 H1 x xs ∧ SqX K k2 H1 y ys ∧ R (ItzX K k1 k2 x y) H1
theorem beginX {X : Cx} {pins : List (Addr × Obj)} {σ : L2.St} {H : Hp} {s : Shared} {k : ZKd} {x : V} {xs : List V} {u : Value} (I : Inv X pins σ H s) (q : SqX X.K k H x xs) (r : RelV x u) :
    ∃ (o : Obj) (Hb : Heap → Prop), Begins u o Hb ∧ Hb s.heap ∧ (∀ h it, h.get? it = some o → StX' k h it u 0) ∧ ∀ b ∈ adrs u, b < s.heap.objs.size := by
  cases k with
  | lst =>
    obtain ⟨a, rfl, hq⟩ := q
    cases (show u = Value.ref a from r)
    obtain ⟨its, rv, p, _⟩ := I.list hq
    exact ⟨_, _, begins_list a its.toArray, p.isList, fun h it e => ⟨a, rfl, _, e, rfl, rfl⟩, fun b hb => by rw [List.mem_singleton.mp hb]; exact p.lt⟩
  | tup =>
    obtain ⟨a, rfl, hq⟩ := q
    cases (show u = Value.ref a from r)
    obtain ⟨its, rv, p, _⟩ := I.tuple hq
    obtain ⟨o1, ho1, _⟩ := id p
    exact ⟨_, _, begins_tuple a its.toArray, p, fun h it e => ⟨a, rfl, _, e, rfl, rfl⟩, fun b hb => by rw [List.mem_singleton.mp hb]; exact Heap.lt_size ho1⟩
  | txt =>
    obtain ⟨z, rfl, rfl⟩ := q
    obtain ⟨t, rfl⟩ := (show ∃ t, u = Value.str z t from r)
    exact ⟨_, _, begins_text z t, trivial, fun h it e => ⟨z, t, rfl, _, e, rfl, rfl⟩, fun b hb => nomatch hb⟩
theorem pi_zipX {X : Cx} {e e2 : Expr} {ta : TA} {p pos tpos : Pos} {elts : List Expr} {kk : Nat} (hg : Gl X "zip") (hm : X.mg "zip" = none) (ha : PA X [e, e2] ta)
    (hs : starEach [e, e2] X.env = (false, eval e X.env) :: starEach [e2] X.env := by rfl) (hpl : (backTo pos (starEach [e2] X.env)).any (·.1) = false := by rfl) :
    PI X (.Tuple elts kk tpos) (.Call (.Name "zip" p) [e, e2] [] pos) (iZipX X.K ta) := by
  refine ⟨fun pins s σ H R I h => ?_⟩
  refine Call_ (ld_blt I hg hm PyProof.Rows.boot_zip (PyProof.Rows.callWith_type1 (thn (ha.run pos pins s σ H _ I h) fun us s1 ⟨vs, H1, I1, r1, q1⟩ => ?_) hs hpl))
  obtain ⟨k1, k2, x, y, xs, ys, ex, hqx, hqy, q⟩ := q1
  subst ex
  cases r1 with
  | @cons _ u1 _ _ r rr =>
    cases rr with
    | @cons _ u2 _ _ r' rr =>
      cases rr
      obtain ⟨o1, B1, bg1, hb1, st1, a1⟩ := beginX I1 hqx r
      obtain ⟨o2, B2, bg2, hb2, st2, a2⟩ := beginX I1 hqy r'
      refine zip_begins2 bg1 bg2 hb1 hb2 fun h' hz hTI hTO e1 e2 hsz hk => wpAny_pyIter_zip hz ?_
      have I2 : Inv X pins σ H1 { s1 with heap := h' } := I1.kept (t' := s1.toks) hk
      have fresh5 : ∀ c, c ∈ [s1.heap.objs.size + 4, s1.heap.objs.size + 2, s1.heap.objs.size + 3, s1.heap.objs.size, s1.heap.objs.size + 1] → FpOk X pins H1 c := fun c hcm => by
        have e' : c = s1.heap.objs.size + 4 ∨ c = s1.heap.objs.size + 2 ∨ c = s1.heap.objs.size + 3 ∨ c = s1.heap.objs.size ∨ c = s1.heap.objs.size + 1 := by simpa using hcm
        have hle : s1.heap.objs.size ≤ c := by
          rcases e' with z | z | z | z | z
          · rw [z]; exact Nat.le_add_right _ _
          · rw [z]; exact Nat.le_add_right _ _
          · rw [z]; exact Nat.le_add_right _ _
          · rw [z]; exact Nat.le_refl _
          · rw [z]; exact Nat.le_add_right _ _
        exact I1.fpOk hle (I1.hok.fresh hle)
      have n1 : s1.heap.objs.size ∉ adrs u1 := fun h => absurd (a1 _ h) (Nat.lt_irrefl _)
      have n2 : s1.heap.objs.size + 1 ∉ adrs u2 := fun h => absurd (a2 _ h) (Nat.not_lt.mpr (Nat.le_succ _))
      exact ⟨s1.heap.objs.size + 4, [s1.heap.objs.size + 4, s1.heap.objs.size + 2, s1.heap.objs.size + 3, s1.heap.objs.size, s1.heap.objs.size + 1], _, _, H1, rfl, I2, turn_zipX r r' (zip_sep2 a1 a2) n1 n2, ⟨hz, hTI, ⟨_, _, hTO⟩, st1 _ _ e1, st2 _ _ e2⟩, fresh5, q⟩
end
section
variable {K : PySem.W.Frag} {σ : L2.St} {H : Hp} {Q : VK} {g : TG} {tt : TT} {te : TE} {tb : TS} {D : Ends} {ta : TA} {vn : List Nat} {k1 k2 : ZKd} {x y : V} {xs ys : List V}
theorem k_pzipX {X : Cx} {e e2 : Expr} {p pos tpos : Pos} {elts : List Expr} {kk : Nat} (hK : X.K = K) (hg : Gl X "zip") (hm : X.mg "zip" = none) (ha : PA X [e, e2] ta)
    (hs : starEach [e, e2] X.env = (false, eval e X.env) :: starEach [e2] X.env := by rfl) (hpl : (backTo pos (starEach [e2] X.env)).any (·.1) = false := by rfl) :
    PI X (.Tuple elts kk tpos) (.Call (.Name "zip" p) [e, e2] [] pos) (iZipX K ta) := hK ▸ pi_zipX hg hm ha hs hpl
/-- a for over zip of two of any kind -/
def ForZX (K : PySem.W.Frag) (ws : List V) (g : TG) (tb : TS) (D : Ends) (σ : L2.St) (H : Hp) : Prop :=
  ∃ k1 k2 x y xs ys, ws = [x, y] ∧ SqX K k1 H x xs ∧ SqX K k2 H y ys ∧ ∃ W : Nat → Nat → L2.St → Hp → Prop,
    (∃ m, W 0 m σ H) ∧ ∀ i m σ H, W i m σ H → ((ItzX K k1 k2 x y).stop i H ∧ D.nx σ H) ∨
      ((ItzX K k1 k2 x y).go i H ∧ ∃ Nx : L2.St → Hp → Prop,
        (∀ σ' H', Nx σ' H' → ∃ m', m' < m ∧ W (i + 1) m' σ' H') ∧
        ∀ v H', (ItzX K k1 k2 x y).yld i H v H' → g v σ H' fun σ2 H2 =>
          tb { D with nx := Nx, ct := Nx, bk := D.nx } σ2 H2)
theorem i_forZX (h : ta σ H fun ws H1 => ForZX K ws g tb D σ H1) : tFor (iZipX K ta) g tb D σ H := h
instance red_i_forZX  : Red (tFor (iZipX K ta) g tb D σ H) (ta σ H fun ws H1 => ForZX K ws g tb D σ H1) := ⟨i_forZX⟩
def LcZX (K : PySem.W.Frag) (ws : List V) (g : TG) (tt : TT) (te : TE) (vs : List Nat) (σ : L2.St) (H1 : Hp) (Q : VK) : Prop :=
  ∃ k1 k2 x y xs ys, ws = [x, y] ∧ SqX K k1 H1 x xs ∧ SqX K k2 H1 y ys ∧ ∀ D, H1 D = none →
    ∃ W : Nat → Nat → Hp → Prop, (∃ m, W 0 m (upd H1 D (.lst []))) ∧ ∀ i m H, W i m H →
      ((ItzX K k1 k2 x y).stop i H ∧ Q (.ref D) H) ∨ ((ItzX K k1 k2 x y).go i H ∧ ∃ Nx : Hp → Prop,
        (∀ H', Nx H' → ∃ m', m' < m ∧ W (i + 1) m' H') ∧
        ∀ v H', (ItzX K k1 k2 x y).yld i H v H' → g v (wipe σ vs) H' fun σ2 H2 => wipe σ2 vs = wipe σ vs ∧ tt σ2 H2 fun b H3 =>
          if b = true then te σ2 H3 fun y H4 => ∃ acc, H4 D = some (.lst acc) ∧ acc.length < sizeLine ∧
            Nx (upd H4 D (.lst (acc ++ [y]))) else Nx H3)
theorem i_lcZX (h : ta σ H fun ws H1 => LcZX K ws g tt te vn σ H1 Q) : tLc (iZipX K ta) g tt te vn σ H Q := h
instance red_i_lcZX  : Red (tLc (iZipX K ta) g tt te vn σ H Q) (ta σ H fun ws H1 => LcZX K ws g tt te vn σ H1 Q) := ⟨i_lcZX⟩
theorem i_eltzX (hx : SqX K k1 H x xs) (hy : SqX K k2 H y ys) (Pv : Addr → Nat → Hp → Prop)
    (h0 : ∀ D, Fr H D → Pv D 0 (upd H D (.lst [])))
    (hl : ∀ D i H', Fr H D → Pv D i H' → SqX K k1 H' x xs ∧ SqX K k2 H' y ys)
    (st : ∀ D i u v T H', Fr H D → xs[i]? = some u → ys[i]? = some v → Pv D i H' → Fr H' T →
      g (.ref T) (wipe σ vn) (upd H' T (.tup [u, v])) fun σ2 H2 =>
      wipe σ2 vn = wipe σ vn ∧ tt σ2 H2 fun b H3 => if b = true then te σ2 H3 fun y H4 =>
        ∃ acc, H4 D = some (.lst acc) ∧ acc.length < sizeLine ∧ Pv D (i + 1) (upd H4 D (.lst (acc ++ [y])))
        else Pv D (i + 1) H3)
    (hd : ∀ D H', Fr H D → Pv D (min xs.length ys.length) H' → Q (.ref D) H') : LcZX K [x, y] g tt te vn σ H Q := by
  refine ⟨k1, k2, x, y, xs, ys, rfl, hx, hy, fun D hD => ⟨fun i m H => m = min xs.length ys.length - i ∧ i ≤ min xs.length ys.length ∧ Pv D i H,
    ⟨_, rfl, Nat.zero_le _, h0 D ⟨hD⟩⟩, ?_⟩⟩
  rintro i m H ⟨rfl, hi, z⟩
  obtain ⟨qx, qy⟩ := hl D i H ⟨hD⟩ z
  by_cases c : i < min xs.length ys.length
  · have c1 : i < xs.length := by omega
    have c2 : i < ys.length := by omega
    refine .inr ⟨⟨xs, ys, _, _, qx, qy, List.getElem?_eq_getElem c1, List.getElem?_eq_getElem c2⟩, Pv D (i + 1),
      fun H' w => ⟨_, by omega, rfl, by omega, w⟩, ?_⟩
    rintro v H' ⟨T, x', y', rfl, hT, rfl, f1, f2⟩
    exact st D i x' y' T H ⟨hD⟩ (f1 xs qx) (f2 ys qy) z ⟨hT⟩
  · have e : i = min xs.length ys.length := by omega
    refine .inl ⟨⟨xs, ys, qx, qy, by omega⟩, hd D H ⟨hD⟩ (by rw [← e]; exact z)⟩
end

def top (i : Nat) : Stmt := PySem.Challenge.pw_forkthrift_k91_whole_program_texts.main.body.getD i (.Pass ⟨0, 0, 0, 0⟩)
abbrev s_NoProgram_init : Stmt := inClass (top 3) 0
abbrev s_is_number : Stmt := top 7
abbrev s_is_whole : Stmt := top 8
abbrev s_is_size : Stmt := top 9
abbrev s_fits : Stmt := top 12
abbrev s_is_program_row : Stmt := top 13
abbrev s_Program_init : Stmt := inClass (top 14) 0
abbrev s_Program_size : Stmt := inClass (top 14) 1
abbrev s_Program_rows : Stmt := inClass (top 14) 2
abbrev s_Program_eq : Stmt := inClass (top 14) 3
abbrev s_Program_len : Stmt := inClass (top 14) 4
abbrev s_number_read : Stmt := top 17
abbrev s_rows_of_text : Stmt := top 18
abbrev s_numbers_read : Stmt := top 19
abbrev s_program_text : Stmt := top 20
abbrev s_read_program : Stmt := top 21
abbrev s_law_pot : Stmt := top 23
abbrev s_law_draw : Stmt := top 24
abbrev s_law_cell : Stmt := top 25
abbrev s_law_row : Stmt := top 26
abbrev s_law_rows : Stmt := top 27
abbrev s_law_size : Stmt := top 28
abbrev s_law_text : Stmt := top 29
abbrev s_law_right : Stmt := top 30
abbrev s_law_both : Stmt := top 31
abbrev s_law : Stmt := top 32
def tyNames : List String := ["NoneType", "int", "bool", "str", "list", "tuple", "dict"]
theorem kit_other {K : PySem.W.Frag} {C : Addr} (hc : PySem.W.isClsIn K C = true) (ht : PySem.W.typeIn K (.ref C) = some (.type "type")) {n : String} (h : PySem.W.subIn K (.type n) (.ref C) = some false) : PySem.W.kitOne K (.type n) (.ref C) = some false := by
  unfold PySem.W.kitOne PySem.W.kitCls
  unfold PySem.W.isClsIn at hc
  rw [if_neg (by simp)]
  simp only [hc, ht, h, beq_self_eq_true, Bool.and_self, if_true]
theorem kit_me {K : PySem.W.Frag} {C : Addr} : PySem.W.kitOne K (.ref C) (.ref C) = some true := by
  unfold PySem.W.kitOne
  rw [if_pos (by simp)]
/-- what the top leaves -/
def kv_SHAPES : List (Str × Str) := [("put", "cn"), ("move", "cc"), ("add", "cc"), ("fill", "bec"), ("from", "cc"), ("into", "cc"), ("less", "ccr"), ("same", "ccr"), ("tell", "c"), ("fork", "r"), ("fail", ""), ("done", "")]
structure Txt (w : World) (K : PySem.W.Frag) (mg : Str → Option Value) where
  a_SHAPES : Addr
  g_SHAPES : mg "SHAPES" = some (.ref a_SHAPES)
  D_SHAPES : TabD K w a_SHAPES kv_SHAPES
  c_Program : Addr
  cl_Program : Cls K c_Program
  mg_Program : mg "Program" = some (.ref c_Program)
  na_Program_own_rows : NoAttr K c_Program "own_rows"
  na_Program_own_size : NoAttr K c_Program "own_size"
  ic_Program : C8.InsC K c_Program
  ot_Program : ∀ n ∈ tyNames, PySem.W.kitOne K (.type n) (.ref c_Program) = some false
  ne_Program : PySem.W.findIn K (.ref c_Program) "__ne__" = some (some (.builtin "object.__ne__"))
  x_ForkError : Addr
  mx_ForkError : mg "ForkError" = some (.ref x_ForkError)
  ec_ForkError : L2.ExcC K x_ForkError
  et_ForkError : PySem.W.typeIn K (.ref x_ForkError) = some (.type "type")
  x_NoSize : Addr
  mx_NoSize : mg "NoSize" = some (.ref x_NoSize)
  ec_NoSize : L2.ExcC K x_NoSize
  et_NoSize : PySem.W.typeIn K (.ref x_NoSize) = some (.type "type")
  x_NoProgram : Addr
  mx_NoProgram : mg "NoProgram" = some (.ref x_NoProgram)
  ec_NoProgram : L2.ExcC K x_NoProgram
  et_NoProgram : PySem.W.typeIn K (.ref x_NoProgram) = some (.type "type")
  x_NoText : Addr
  mx_NoText : mg "NoText" = some (.ref x_NoText)
  ec_NoText : L2.ExcC K x_NoText
  et_NoText : PySem.W.typeIn K (.ref x_NoText) = some (.type "type")
  ek_NoSize : PySem.W.keepIn K (.ref x_NoSize) = true
  en_NoSize : PySem.W.excIn K x_NoSize [.type "ValueError", .type "Exception", .type "BaseException", .type "object"] "ValueError.__new__" = true
  is_NoSize_ForkError : PySem.W.subIn K (.ref x_NoSize) (.ref x_ForkError) = some true
  is_NoSize_NoSize : PySem.W.subIn K (.ref x_NoSize) (.ref x_NoSize) = some true
  is_NoSize_NoProgram : PySem.W.subIn K (.ref x_NoSize) (.ref x_NoProgram) = some false
  is_NoSize_NoText : PySem.W.subIn K (.ref x_NoSize) (.ref x_NoText) = some false
  ek_NoProgram : PySem.W.keepIn K (.ref x_NoProgram) = true
  is_NoProgram_ForkError : PySem.W.subIn K (.ref x_NoProgram) (.ref x_ForkError) = some true
  is_NoProgram_NoSize : PySem.W.subIn K (.ref x_NoProgram) (.ref x_NoSize) = some false
  is_NoProgram_NoProgram : PySem.W.subIn K (.ref x_NoProgram) (.ref x_NoProgram) = some true
  is_NoProgram_NoText : PySem.W.subIn K (.ref x_NoProgram) (.ref x_NoText) = some false
  ek_NoText : PySem.W.keepIn K (.ref x_NoText) = true
  en_NoText : PySem.W.excIn K x_NoText [.type "ValueError", .type "Exception", .type "BaseException", .type "object"] "ValueError.__new__" = true
  is_NoText_ForkError : PySem.W.subIn K (.ref x_NoText) (.ref x_ForkError) = some true
  is_NoText_NoSize : PySem.W.subIn K (.ref x_NoText) (.ref x_NoSize) = some false
  is_NoText_NoProgram : PySem.W.subIn K (.ref x_NoText) (.ref x_NoProgram) = some false
  is_NoText_NoText : PySem.W.subIn K (.ref x_NoText) (.ref x_NoText) = some true
  a_NoProgram_init : Addr
  d_NoProgram_init : FuncData
  F_NoProgram_init : FunD K "__init__" "NoProgram.__init__" (defArgs s_NoProgram_init) (defBody s_NoProgram_init) (defScope s_NoProgram_init) [] ([] : List (Str × V)) a_NoProgram_init d_NoProgram_init
  xi_NoProgram : PySem.W.findIn K (.ref x_NoProgram) "__init__" = some (some (.ref a_NoProgram_init))
  xt_NoProgram : PySem.W.typeIn K (.ref a_NoProgram_init) = some (.type "function")
  xc_NoProgram : XC K x_NoProgram "ValueError" "ValueError.__new__" "ValueError.__init__" [.type "ValueError", .type "Exception", .type "BaseException", .type "object"]
  xn_NoProgram : PySem.W.findIn K (.ref x_NoProgram) "row" = some none
  xbg_NoProgram : PySem.W.specialIn K (.ref x_ForkError) "__getattribute__" = some (some (.builtin "type.__getattribute__"))
  xbr_NoProgram : PySem.W.readsIn K x_ForkError (.type "type") = true
  xv_NoProgram : PySem.W.findCls K (.ref x_ForkError) (.type "type") "__init__" = some (.val (.builtin "ValueError.__init__"))
  xf_NoProgram : XfC K x_NoProgram
  b_NoProgram_init : BindsD K d_NoProgram_init ["self", "row"] []
  a_is_number : Addr
  d_is_number : FuncData
  F_is_number : FunD K "is_number" "is_number" (defArgs s_is_number) (defBody s_is_number) (defScope s_is_number) [] ([] : List (Str × V)) a_is_number d_is_number
  m_is_number : mg "is_number" = some (.ref a_is_number)
  b_is_number : BindsD K d_is_number ["thing"] []
  a_is_whole : Addr
  d_is_whole : FuncData
  F_is_whole : FunD K "is_whole" "is_whole" (defArgs s_is_whole) (defBody s_is_whole) (defScope s_is_whole) [] ([] : List (Str × V)) a_is_whole d_is_whole
  m_is_whole : mg "is_whole" = some (.ref a_is_whole)
  b_is_whole : BindsD K d_is_whole ["thing", "least", "most"] []
  a_is_size : Addr
  d_is_size : FuncData
  F_is_size : FunD K "is_size" "is_size" (defArgs s_is_size) (defBody s_is_size) (defScope s_is_size) [] ([] : List (Str × V)) a_is_size d_is_size
  m_is_size : mg "is_size" = some (.ref a_is_size)
  b_is_size : BindsD K d_is_size ["thing"] []
  a_fits : Addr
  d_fits : FuncData
  F_fits : FunD K "fits" "fits" (defArgs s_fits) (defBody s_fits) (defScope s_fits) [] ([] : List (Str × V)) a_fits d_fits
  m_fits : mg "fits" = some (.ref a_fits)
  b_fits : BindsD K d_fits ["sort", "thing", "size", "many"] []
  a_is_program_row : Addr
  d_is_program_row : FuncData
  F_is_program_row : FunD K "is_program_row" "is_program_row" (defArgs s_is_program_row) (defBody s_is_program_row) (defScope s_is_program_row) [] ([] : List (Str × V)) a_is_program_row d_is_program_row
  m_is_program_row : mg "is_program_row" = some (.ref a_is_program_row)
  b_is_program_row : BindsD K d_is_program_row ["thing", "size", "many"] []
  a_Program_init : Addr
  d_Program_init : FuncData
  F_Program_init : FunD K "__init__" "Program.__init__" (defArgs s_Program_init) (defBody s_Program_init) (defScope s_Program_init) [] ([] : List (Str × V)) a_Program_init d_Program_init
  mk_Program : Mk K c_Program a_Program_init
  b_Program_init : BindsD K d_Program_init ["self", "size", "rows"] []
  a_Program_size : Addr
  d_Program_size : FuncData
  F_Program_size : FunD K "size" "Program.size" (defArgs s_Program_size) (defBody s_Program_size) (defScope s_Program_size) [] ([] : List (Str × V)) a_Program_size d_Program_size
  me_Program_size : Meth K c_Program "size" a_Program_size
  b_Program_size : BindsD K d_Program_size ["self"] []
  a_Program_rows : Addr
  d_Program_rows : FuncData
  F_Program_rows : FunD K "rows" "Program.rows" (defArgs s_Program_rows) (defBody s_Program_rows) (defScope s_Program_rows) [] ([] : List (Str × V)) a_Program_rows d_Program_rows
  me_Program_rows : Meth K c_Program "rows" a_Program_rows
  b_Program_rows : BindsD K d_Program_rows ["self"] []
  a_Program_eq : Addr
  d_Program_eq : FuncData
  F_Program_eq : FunD K "__eq__" "Program.__eq__" (defArgs s_Program_eq) (defBody s_Program_eq) (defScope s_Program_eq) [] ([] : List (Str × V)) a_Program_eq d_Program_eq
  me_Program_eq : Meth K c_Program "__eq__" a_Program_eq
  b_Program_eq : BindsD K d_Program_eq ["self", "other"] []
  a_Program_len : Addr
  d_Program_len : FuncData
  F_Program_len : FunD K "__len__" "Program.__len__" (defArgs s_Program_len) (defBody s_Program_len) (defScope s_Program_len) [] ([] : List (Str × V)) a_Program_len d_Program_len
  me_Program_len : Meth K c_Program "__len__" a_Program_len
  b_Program_len : BindsD K d_Program_len ["self"] []
  a_number_read : Addr
  d_number_read : FuncData
  F_number_read : FunD K "number_read" "number_read" (defArgs s_number_read) (defBody s_number_read) (defScope s_number_read) [] ([] : List (Str × V)) a_number_read d_number_read
  m_number_read : mg "number_read" = some (.ref a_number_read)
  b_number_read : BindsD K d_number_read ["word"] []
  a_rows_of_text : Addr
  d_rows_of_text : FuncData
  F_rows_of_text : FunD K "rows_of_text" "rows_of_text" (defArgs s_rows_of_text) (defBody s_rows_of_text) (defScope s_rows_of_text) [] ([] : List (Str × V)) a_rows_of_text d_rows_of_text
  m_rows_of_text : mg "rows_of_text" = some (.ref a_rows_of_text)
  b_rows_of_text : BindsD K d_rows_of_text ["text"] []
  a_numbers_read : Addr
  d_numbers_read : FuncData
  F_numbers_read : FunD K "numbers_read" "numbers_read" (defArgs s_numbers_read) (defBody s_numbers_read) (defScope s_numbers_read) [] ([] : List (Str × V)) a_numbers_read d_numbers_read
  m_numbers_read : mg "numbers_read" = some (.ref a_numbers_read)
  b_numbers_read : BindsD K d_numbers_read ["words"] []
  a_program_text : Addr
  d_program_text : FuncData
  F_program_text : FunD K "program_text" "program_text" (defArgs s_program_text) (defBody s_program_text) (defScope s_program_text) [] ([] : List (Str × V)) a_program_text d_program_text
  m_program_text : mg "program_text" = some (.ref a_program_text)
  b_program_text : BindsD K d_program_text ["program"] []
  a_read_program : Addr
  d_read_program : FuncData
  F_read_program : FunD K "read_program" "read_program" (defArgs s_read_program) (defBody s_read_program) (defScope s_read_program) [] ([] : List (Str × V)) a_read_program d_read_program
  m_read_program : mg "read_program" = some (.ref a_read_program)
  b_read_program : BindsD K d_read_program ["text"] []
  a_law_pot : Addr
  d_law_pot : FuncData
  F_law_pot : FunD K "_law_pot" "_law_pot" (defArgs s_law_pot) (defBody s_law_pot) (defScope s_law_pot) [] ([] : List (Str × V)) a_law_pot d_law_pot
  m_law_pot : mg "_law_pot" = some (.ref a_law_pot)
  b_law_pot : BindsD K d_law_pot ["_law_script", "_law_k"] []
  a_law_draw : Addr
  d_law_draw : FuncData
  F_law_draw : FunD K "_law_draw" "_law_draw" (defArgs s_law_draw) (defBody s_law_draw) (defScope s_law_draw) [] ([] : List (Str × V)) a_law_draw d_law_draw
  m_law_draw : mg "_law_draw" = some (.ref a_law_draw)
  b_law_draw : BindsD K d_law_draw ["_law_pot_here", "_law_many"] []
  a_law_cell : Addr
  d_law_cell : FuncData
  F_law_cell : FunD K "_law_cell" "_law_cell" (defArgs s_law_cell) (defBody s_law_cell) (defScope s_law_cell) [] ([] : List (Str × V)) a_law_cell d_law_cell
  m_law_cell : mg "_law_cell" = some (.ref a_law_cell)
  b_law_cell : BindsD K d_law_cell ["_law_pot_here", "_law_size_here"] []
  a_law_row : Addr
  d_law_row : FuncData
  F_law_row : FunD K "_law_row" "_law_row" (defArgs s_law_row) (defBody s_law_row) (defScope s_law_row) [] ([] : List (Str × V)) a_law_row d_law_row
  m_law_row : mg "_law_row" = some (.ref a_law_row)
  b_law_row : BindsD K d_law_row ["_law_pot_here", "_law_size_here", "_law_at", "_law_many", "_law_forward"] []
  a_law_rows : Addr
  d_law_rows : FuncData
  F_law_rows : FunD K "_law_rows" "_law_rows" (defArgs s_law_rows) (defBody s_law_rows) (defScope s_law_rows) [] ([] : List (Str × V)) a_law_rows d_law_rows
  m_law_rows : mg "_law_rows" = some (.ref a_law_rows)
  b_law_rows : BindsD K d_law_rows ["_law_pot_here", "_law_size_here", "_law_many", "_law_forward", "_law_forks"] []
  a_law_size : Addr
  d_law_size : FuncData
  F_law_size : FunD K "_law_size" "_law_size" (defArgs s_law_size) (defBody s_law_size) (defScope s_law_size) [] ([] : List (Str × V)) a_law_size d_law_size
  m_law_size : mg "_law_size" = some (.ref a_law_size)
  b_law_size : BindsD K d_law_size ["_law_pot_here"] []
  a_law_text : Addr
  d_law_text : FuncData
  F_law_text : FunD K "_law_text" "_law_text" (defArgs s_law_text) (defBody s_law_text) (defScope s_law_text) [] ([] : List (Str × V)) a_law_text d_law_text
  m_law_text : mg "_law_text" = some (.ref a_law_text)
  b_law_text : BindsD K d_law_text ["_law_size_here", "_law_rows_here"] []
  a_law_right : Addr
  d_law_right : FuncData
  F_law_right : FunD K "_law_right" "_law_right" (defArgs s_law_right) (defBody s_law_right) (defScope s_law_right) [] ([] : List (Str × V)) a_law_right d_law_right
  m_law_right : mg "_law_right" = some (.ref a_law_right)
  b_law_right : BindsD K d_law_right ["_law_size_here", "_law_rows_here"] []
  a_law_both : Addr
  d_law_both : FuncData
  F_law_both : FunD K "_law_both" "_law_both" (defArgs s_law_both) (defBody s_law_both) (defScope s_law_both) [] ([] : List (Str × V)) a_law_both d_law_both
  m_law_both : mg "_law_both" = some (.ref a_law_both)
  b_law_both : BindsD K d_law_both ["_law_pot_here"] []
  a_law : Addr
  d_law : FuncData
  F_law : FunD K "law" "law" (defArgs s_law) (defBody s_law) (defScope s_law) [] ([] : List (Str × V)) a_law d_law
  m_law : mg "law" = some (.ref a_law)
  b_law : BindsD K d_law ["_law_script"] []
  t_LARGEST : Tok
  g_LARGEST : mg "LARGEST" = some (.int 1000000000000000000 t_LARGEST)
  t_MOST_SIGNS : Tok
  g_MOST_SIGNS : mg "MOST_SIGNS" = some (.int 4000 t_MOST_SIGNS)
  n_ValueError : mg "ValueError" = none
  n_abs : mg "abs" = none
  n_all : mg "all" = none
  n_bool : mg "bool" = none
  n_divmod : mg "divmod" = none
  n_enumerate : mg "enumerate" = none
  n_int : mg "int" = none
  n_isinstance : mg "isinstance" = none
  n_len : mg "len" = none
  n_list : mg "list" = none
  n_max : mg "max" = none
  n_min : mg "min" = none
  n_range : mg "range" = none
  n_repr : mg "repr" = none
  n_sorted : mg "sorted" = none
  n_str : mg "str" = none
  n_tuple : mg "tuple" = none
  n_zip : mg "zip" = none
/-! ### the head: facts by names, the run in the kernel -/
def dd0 : He.DefD := ⟨("NoProgram", some "__init__"), "__init__", "NoProgram.__init__", defArgs s_NoProgram_init, defBody s_NoProgram_init, defScope s_NoProgram_init, [], []⟩
def dd1 : He.DefD := ⟨("is_number", none), "is_number", "is_number", defArgs s_is_number, defBody s_is_number, defScope s_is_number, [], []⟩
def dd2 : He.DefD := ⟨("is_whole", none), "is_whole", "is_whole", defArgs s_is_whole, defBody s_is_whole, defScope s_is_whole, [], []⟩
def dd3 : He.DefD := ⟨("is_size", none), "is_size", "is_size", defArgs s_is_size, defBody s_is_size, defScope s_is_size, [], []⟩
def dd4 : He.DefD := ⟨("fits", none), "fits", "fits", defArgs s_fits, defBody s_fits, defScope s_fits, [], []⟩
def dd5 : He.DefD := ⟨("is_program_row", none), "is_program_row", "is_program_row", defArgs s_is_program_row, defBody s_is_program_row, defScope s_is_program_row, [], []⟩
def dd6 : He.DefD := ⟨("Program", some "__init__"), "__init__", "Program.__init__", defArgs s_Program_init, defBody s_Program_init, defScope s_Program_init, [], []⟩
def dd7 : He.DefD := ⟨("Program", some "size"), "size", "Program.size", defArgs s_Program_size, defBody s_Program_size, defScope s_Program_size, [], []⟩
def dd8 : He.DefD := ⟨("Program", some "rows"), "rows", "Program.rows", defArgs s_Program_rows, defBody s_Program_rows, defScope s_Program_rows, [], []⟩
def dd9 : He.DefD := ⟨("Program", some "__eq__"), "__eq__", "Program.__eq__", defArgs s_Program_eq, defBody s_Program_eq, defScope s_Program_eq, [], []⟩
def dd10 : He.DefD := ⟨("Program", some "__len__"), "__len__", "Program.__len__", defArgs s_Program_len, defBody s_Program_len, defScope s_Program_len, [], []⟩
def dd11 : He.DefD := ⟨("number_read", none), "number_read", "number_read", defArgs s_number_read, defBody s_number_read, defScope s_number_read, [], []⟩
def dd12 : He.DefD := ⟨("rows_of_text", none), "rows_of_text", "rows_of_text", defArgs s_rows_of_text, defBody s_rows_of_text, defScope s_rows_of_text, [], []⟩
def dd13 : He.DefD := ⟨("numbers_read", none), "numbers_read", "numbers_read", defArgs s_numbers_read, defBody s_numbers_read, defScope s_numbers_read, [], []⟩
def dd14 : He.DefD := ⟨("program_text", none), "program_text", "program_text", defArgs s_program_text, defBody s_program_text, defScope s_program_text, [], []⟩
def dd15 : He.DefD := ⟨("read_program", none), "read_program", "read_program", defArgs s_read_program, defBody s_read_program, defScope s_read_program, [], []⟩
def dd16 : He.DefD := ⟨("_law_pot", none), "_law_pot", "_law_pot", defArgs s_law_pot, defBody s_law_pot, defScope s_law_pot, [], []⟩
def dd17 : He.DefD := ⟨("_law_draw", none), "_law_draw", "_law_draw", defArgs s_law_draw, defBody s_law_draw, defScope s_law_draw, [], []⟩
def dd18 : He.DefD := ⟨("_law_cell", none), "_law_cell", "_law_cell", defArgs s_law_cell, defBody s_law_cell, defScope s_law_cell, [], []⟩
def dd19 : He.DefD := ⟨("_law_row", none), "_law_row", "_law_row", defArgs s_law_row, defBody s_law_row, defScope s_law_row, [], []⟩
def dd20 : He.DefD := ⟨("_law_rows", none), "_law_rows", "_law_rows", defArgs s_law_rows, defBody s_law_rows, defScope s_law_rows, [], []⟩
def dd21 : He.DefD := ⟨("_law_size", none), "_law_size", "_law_size", defArgs s_law_size, defBody s_law_size, defScope s_law_size, [], []⟩
def dd22 : He.DefD := ⟨("_law_text", none), "_law_text", "_law_text", defArgs s_law_text, defBody s_law_text, defScope s_law_text, [], []⟩
def dd23 : He.DefD := ⟨("_law_right", none), "_law_right", "_law_right", defArgs s_law_right, defBody s_law_right, defScope s_law_right, [], []⟩
def dd24 : He.DefD := ⟨("_law_both", none), "_law_both", "_law_both", defArgs s_law_both, defBody s_law_both, defScope s_law_both, [], []⟩
def dd25 : He.DefD := ⟨("law", none), "law", "law", defArgs s_law, defBody s_law, defScope s_law, [], []⟩
def fnH : List He.DefD := [dd0, dd1, dd2, dd3, dd4, dd5, dd6, dd7, dd8, dd9, dd10, dd11, dd12, dd13, dd14, dd15, dd16, dd17, dd18, dd19, dd20, dd21, dd22, dd23, dd24, dd25]
/-- a name of the top's, that is an object -/
def gdH (K : PySem.W.Frag) (x : Str) : Addr := match PySem.W.nsIn K mainGlobals x with
  | some (some (.ref a)) => a
  | _ => 0
def dicsH (K : PySem.W.Frag) : List (Option (List (Option (Str × Int)))) := [He.dicW K (gdH K "SHAPES")]
def dvalH (P : Params) : List (Option (List (Option (Str × Int)))) := [some (He.keysIn P (kv_SHAPES.map (·.1)))]
def gH0 (K : PySem.W.Frag) : Bool := (He.Fa.glo "is_number").ok K && ((He.Fa.glo "is_whole").ok K && ((He.Fa.glo "is_size").ok K && ((He.Fa.glo "fits").ok K && ((He.Fa.glo "is_program_row").ok K && ((He.Fa.meth "Program" "size").ok K && ((He.Fa.meth "Program" "rows").ok K && ((He.Fa.meth "Program" "__eq__").ok K && ((He.Fa.meth "Program" "__len__").ok K && ((He.Fa.glo "number_read").ok K && ((He.Fa.glo "rows_of_text").ok K && ((He.Fa.glo "numbers_read").ok K)))))))))))
def gH1 (K : PySem.W.Frag) : Bool := (He.Fa.glo "program_text").ok K && ((He.Fa.glo "read_program").ok K && ((He.Fa.glo "_law_pot").ok K && ((He.Fa.glo "_law_draw").ok K && ((He.Fa.glo "_law_cell").ok K && ((He.Fa.glo "_law_row").ok K && ((He.Fa.glo "_law_rows").ok K && ((He.Fa.glo "_law_size").ok K && ((He.Fa.glo "_law_text").ok K && ((He.Fa.glo "_law_right").ok K && ((He.Fa.glo "_law_both").ok K && ((He.Fa.glo "law").ok K)))))))))))
def gH2 (K : PySem.W.Frag) : Bool := (He.Fa.glo "Program").ok K && ((He.Fa.cls "Program").ok K && ((He.Fa.mkr "Program").ok K && ((He.Fa.noat "Program" "own_rows").ok K && ((He.Fa.noat "Program" "own_size").ok K && (He.eqO (PySem.W.findIn K (.ref (He.ga K "Program")) "__class__") (some (some (.builtin "object.__class__"))) && (decide (PySem.W.mroIn K (He.ga K "Program") (.type "object") = some true) && (decide (PySem.W.kitOne K (.type "NoneType") (.ref (He.ga K "Program")) = some false) && (decide (PySem.W.kitOne K (.type "int") (.ref (He.ga K "Program")) = some false) && (decide (PySem.W.kitOne K (.type "bool") (.ref (He.ga K "Program")) = some false) && (decide (PySem.W.kitOne K (.type "str") (.ref (He.ga K "Program")) = some false) && (decide (PySem.W.kitOne K (.type "list") (.ref (He.ga K "Program")) = some false))))))))))))
def gH3 (K : PySem.W.Frag) : Bool := decide (PySem.W.kitOne K (.type "tuple") (.ref (He.ga K "Program")) = some false) && (decide (PySem.W.kitOne K (.type "dict") (.ref (He.ga K "Program")) = some false) && (He.eqO (PySem.W.findIn K (.ref (He.ga K "Program")) "__ne__") (some (some (.builtin "object.__ne__"))) && (He.eqO (PySem.W.specialIn K (.builtin "object.__class__") "__get__") (some (some (.builtin "getset_descriptor.__get__"))) && (decide (PySem.W.takesIn K (.builtin "object.__class__") = some true) && ((He.Fa.glo "ForkError").ok K && (He.eqO (PySem.W.findIn K (.ref (He.ga K "ForkError")) "__getattribute__") (some (some (.builtin "BaseException.__getattribute__"))) && (He.eqO (PySem.W.findIn K (.ref (He.ga K "ForkError")) "__getattr__") (some none) && (decide (PySem.W.subIn K (.ref (He.ga K "ForkError")) (.type "BaseException") = some true) && (PySem.W.hasDictIn K (He.ga K "ForkError") && (He.eqO (PySem.W.findIn K (.ref (He.ga K "ForkError")) "__class__") (some (some (.builtin "object.__class__"))) && (decide (PySem.W.mroIn K (He.ga K "ForkError") (.type "object") = some true))))))))))))
def gH4 (K : PySem.W.Frag) : Bool := decide (PySem.W.typeIn K (.ref (He.ga K "ForkError")) = some (.type "type")) && ((He.Fa.glo "NoSize").ok K && (He.eqO (PySem.W.findIn K (.ref (He.ga K "NoSize")) "__getattribute__") (some (some (.builtin "BaseException.__getattribute__"))) && (He.eqO (PySem.W.findIn K (.ref (He.ga K "NoSize")) "__getattr__") (some none) && (decide (PySem.W.subIn K (.ref (He.ga K "NoSize")) (.type "BaseException") = some true) && (PySem.W.hasDictIn K (He.ga K "NoSize") && (He.eqO (PySem.W.findIn K (.ref (He.ga K "NoSize")) "__class__") (some (some (.builtin "object.__class__"))) && (decide (PySem.W.mroIn K (He.ga K "NoSize") (.type "object") = some true) && (decide (PySem.W.typeIn K (.ref (He.ga K "NoSize")) = some (.type "type")) && (PySem.W.keepIn K (.ref (He.ga K "NoSize")) && (PySem.W.excIn K (He.ga K "NoSize") [.type "ValueError", .type "Exception", .type "BaseException", .type "object"] "ValueError.__new__" && (decide (PySem.W.subIn K (.ref (He.ga K "NoSize")) (.ref (He.ga K "ForkError")) = some true))))))))))))
def gH5 (K : PySem.W.Frag) : Bool := decide (PySem.W.subIn K (.ref (He.ga K "NoSize")) (.ref (He.ga K "NoSize")) = some true) && (decide (PySem.W.subIn K (.ref (He.ga K "NoSize")) (.ref (He.ga K "NoProgram")) = some false) && (decide (PySem.W.subIn K (.ref (He.ga K "NoSize")) (.ref (He.ga K "NoText")) = some false) && ((He.Fa.glo "NoProgram").ok K && (He.eqO (PySem.W.findIn K (.ref (He.ga K "NoProgram")) "__getattribute__") (some (some (.builtin "BaseException.__getattribute__"))) && (He.eqO (PySem.W.findIn K (.ref (He.ga K "NoProgram")) "__getattr__") (some none) && (decide (PySem.W.subIn K (.ref (He.ga K "NoProgram")) (.type "BaseException") = some true) && (PySem.W.hasDictIn K (He.ga K "NoProgram") && (He.eqO (PySem.W.findIn K (.ref (He.ga K "NoProgram")) "__class__") (some (some (.builtin "object.__class__"))) && (decide (PySem.W.mroIn K (He.ga K "NoProgram") (.type "object") = some true) && (decide (PySem.W.typeIn K (.ref (He.ga K "NoProgram")) = some (.type "type")) && (PySem.W.keepIn K (.ref (He.ga K "NoProgram")))))))))))))
def gH6 (K : PySem.W.Frag) : Bool := decide (PySem.W.subIn K (.ref (He.ga K "NoProgram")) (.ref (He.ga K "ForkError")) = some true) && (decide (PySem.W.subIn K (.ref (He.ga K "NoProgram")) (.ref (He.ga K "NoSize")) = some false) && (decide (PySem.W.subIn K (.ref (He.ga K "NoProgram")) (.ref (He.ga K "NoProgram")) = some true) && (decide (PySem.W.subIn K (.ref (He.ga K "NoProgram")) (.ref (He.ga K "NoText")) = some false) && ((He.Fa.meth "NoProgram" "__init__").ok K && (decide (PySem.W.typeIn K (.ref (He.ma K (He.ga K "NoProgram") "__init__")) = some (.type "function")) && (excB K (He.ga K "NoProgram") [.type "ValueError", .type "Exception", .type "BaseException", .type "object"] "ValueError.__new__" && (He.eqO (PySem.W.findIn K (.ref (He.ga K "NoProgram")) "__setattr__") (some (some (.builtin "object.__setattr__"))) && (He.eqO (PySem.W.findIn K (.ref (He.ga K "NoProgram")) "row") (some none) && (He.eqO (PySem.W.specialIn K (.ref (He.ga K "ForkError")) "__getattribute__") (some (some (.builtin "type.__getattribute__"))) && (PySem.W.readsIn K (He.ga K "ForkError") (.type "type") && (foundB "ValueError.__init__" (PySem.W.findCls K (.ref (He.ga K "ForkError")) (.type "type") "__init__"))))))))))))
def gH7 (K : PySem.W.Frag) : Bool := (He.Fa.glo "NoText").ok K && (He.eqO (PySem.W.findIn K (.ref (He.ga K "NoText")) "__getattribute__") (some (some (.builtin "BaseException.__getattribute__"))) && (He.eqO (PySem.W.findIn K (.ref (He.ga K "NoText")) "__getattr__") (some none) && (decide (PySem.W.subIn K (.ref (He.ga K "NoText")) (.type "BaseException") = some true) && (PySem.W.hasDictIn K (He.ga K "NoText") && (He.eqO (PySem.W.findIn K (.ref (He.ga K "NoText")) "__class__") (some (some (.builtin "object.__class__"))) && (decide (PySem.W.mroIn K (He.ga K "NoText") (.type "object") = some true) && (decide (PySem.W.typeIn K (.ref (He.ga K "NoText")) = some (.type "type")) && (PySem.W.keepIn K (.ref (He.ga K "NoText")) && (PySem.W.excIn K (He.ga K "NoText") [.type "ValueError", .type "Exception", .type "BaseException", .type "object"] "ValueError.__new__" && (decide (PySem.W.subIn K (.ref (He.ga K "NoText")) (.ref (He.ga K "ForkError")) = some true) && (decide (PySem.W.subIn K (.ref (He.ga K "NoText")) (.ref (He.ga K "NoSize")) = some false))))))))))))
def gH8 (K : PySem.W.Frag) : Bool := decide (PySem.W.subIn K (.ref (He.ga K "NoText")) (.ref (He.ga K "NoProgram")) = some false) && (decide (PySem.W.subIn K (.ref (He.ga K "NoText")) (.ref (He.ga K "NoText")) = some true) && ((He.Fa.int "LARGEST" 1000000000000000000).ok K && ((He.Fa.int "MOST_SIGNS" 4000).ok K && (He.eqO (PySem.W.nsIn K mainGlobals "SHAPES") (some (some (.ref (gdH K "SHAPES")))) && (He.valsB K (gdH K "SHAPES") (kv_SHAPES.map fun q => (q.1, He.Dv.str q.2)) && ((He.Fa.free "ValueError").ok K && ((He.Fa.free "abs").ok K && ((He.Fa.free "all").ok K && ((He.Fa.free "bool").ok K && ((He.Fa.free "divmod").ok K && ((He.Fa.free "enumerate").ok K)))))))))))
def gH9 (K : PySem.W.Frag) : Bool := (He.Fa.free "int").ok K && ((He.Fa.free "isinstance").ok K && ((He.Fa.free "len").ok K && ((He.Fa.free "list").ok K && ((He.Fa.free "max").ok K && ((He.Fa.free "min").ok K && ((He.Fa.free "range").ok K && ((He.Fa.free "repr").ok K && ((He.Fa.free "sorted").ok K && ((He.Fa.free "str").ok K && ((He.Fa.free "tuple").ok K && ((He.Fa.free "zip").ok K)))))))))))
def exH (K : PySem.W.Frag) : Bool := gH0 K && (gH1 K && (gH2 K && (gH3 K && (gH4 K && (gH5 K && (gH6 K && (gH7 K && (gH8 K && (gH9 K)))))))))
abbrev RwH : PySem.W.OpenRow := PySem.W.OpenLaw.row PySem.Challenge.rw_forkthrift_k91_whole_program_texts
/-- what the names reach in n steps -/
def lvM (g : Addr → Option Obj) : Nat → List Addr → List Addr
  | 0, as => as
  | n + 1, as => as ++ lvM g n (as.flatMap fun a => match g a with | some o => He.refsD o | none => [])
def frM (g : Addr → Option Obj) (n : Nat) : PySem.W.Frag := He.frG g (lvM g n [mainGlobals] ++ [cStatics])
def hookM (n : Nat) (fn : List He.DefD) (ex : PySem.W.Frag → Bool) : PySem.W.Hook where
  α := He.AlD × (Bool × List (Option (List (Option (Str × Int)))))
  obs := fun s => (He.obsD [] fn (frM s.heap.get? n), ex (frM s.heap.get? n), dicsH (frM s.heap.get? n))
  val := fun w => (He.valD fn, true, dvalH w.params)
  says := fun w h => ∃ K : PySem.W.Frag, K.In h ∧ He.SaysD [] fn K ∧ ex K = true ∧ dicsH K = dvalH w.params
  of := fun _ _ e => ⟨_, He.frG_in, congrArg Prod.fst e, congrArg (fun z => z.2.1) e, congrArg (fun z => z.2.2) e⟩
  keeps := fun _ _ _ ⟨K, hK, c⟩ k => ⟨K, PySem.W.Frag.In.keeps hK k, c⟩
abbrev hkH : PySem.W.Hook := hookM 5 fnH exH
def obH (s : PySem.W.SharedT) : He.AlD × (Bool × List (Option (List (Option (Str × Int))))) := (He.obsD [] fnH (frM (HandSHeadRun.getT s) 5), exH (frM (HandSHeadRun.getT s) 5), dicsH (frM (HandSHeadRun.getT s) 5))
theorem obH_eq (s : PySem.W.SharedT) : obH s = hkH.obs s.abs := by
  have e : HandSHeadRun.getT s = s.abs.heap.get? := funext (HandSHeadRun.getT_eq s)
  unfold obH
  rw [e] <;> rfl
def lsH0 : List Str := ["__name__", "ForkError", "NoSize", "NoProgram", "NoText", "LARGEST", "is_number", "is_whole", "is_size", "SHAPES", "fits", "is_program_row", "Program", "MOST_SIGNS", "number_read", "rows_of_text", "numbers_read", "program_text", "read_program", "_law_pot", "_law_draw", "_law_cell", "_law_row", "_law_rows"]
def lsH1 : List Str := ["_law_size", "_law_text", "_law_right", "_law_both"]
def lsH : List Str := lsH0 ++ lsH1
set_option maxHeartbeats 0 in
theorem runHF (w : World) : HandSHeadRun.RunEq RwH (PySem.W.view RwH.prog [32]) hkH obH 200000 lsH (w.withFollow "special-get-raises" false) := by
  intro os
  kernel_rfl
set_option maxHeartbeats 0 in
theorem runHT (w : World) : HandSHeadRun.RunEq RwH (PySem.W.view RwH.prog [32]) hkH obH 200000 lsH (w.withFollow "special-get-raises" true) := by
  intro os
  kernel_rfl
theorem runH (w : World) : HandSHeadRun.RunEq RwH (PySem.W.view RwH.prog [32]) hkH obH 200000 lsH w :=
  PySem.W.byRow2 "special-get-raises" (P := fun w => HandSHeadRun.RunEq RwH (PySem.W.view RwH.prog [32]) hkH obH 200000 lsH w) runHF runHT w

/-! ### pots and draws -/
def sp_law_pot (K : PySem.W.Frag) : Sp := fun vs H Q _ => ∃ (a : Addr) (ns : List Int) (i : Nat),
  vs = [.ref a, .int i] ∧ SqL K H a (ns.map V.int) ∧ i ≤ 100 ∧
  ∀ p H', Fr H p → Kp [] H H' → PotAt H' p → Q (.ref p) H'
theorem sc_law_pot : FnScope ["_law_script", "_law_k", "_law_cell_here"] ["_law_script", "_law_k"] (defScope s_law_pot) :=
  ⟨rfl, rfl, rfl, by decide +kernel, rfl, by decide +kernel, by decide +kernel⟩
theorem ok_law_pot {P : Program} {w : World} {K : PySem.W.Frag} {mg : Str → Option Value} {base : Heap} (T : Txt w K mg) :
    FnG P w K mg base 1 T.a_law_pot T.d_law_pot ["_law_script", "_law_k"] (sp_law_pot K) := by
  refine okD T.F_law_pot sc_law_pot (fun vs H Q E h => ?_) (fun cdv A outer s H vs Q E hr h => ?_)
  · first
      | (obtain ⟨_, rfl, _⟩ := h; rfl)
      | (obtain ⟨_, _, rfl, _⟩ := h; rfl)
      | (obtain ⟨_, _, _, rfl, _⟩ := h; rfl)
      | (obtain ⟨_, _, _, _, rfl, _⟩ := h; rfl)
      | (obtain ⟨_, _, _, _, _, rfl, _⟩ := h; rfl)
      | (obtain ⟨_, _, _, _, _, _, rfl, _⟩ := h; rfl)
      | (obtain ⟨_, _, _, _, _, _, _, rfl, _⟩ := h; rfl)
      | (obtain ⟨_, _, _, _, _, _, _, _, rfl, _⟩ := h; rfl)
      | (obtain ⟨_, _, _, _, _, _, _, _, _, rfl, _⟩ := h; rfl)
      | (obtain ⟨_, _, _, _, _, _, _, _, _, _, rfl, _⟩ := h; rfl)
      | (obtain ⟨_, _, _, _, _, _, _, _, _, _, _, rfl, _⟩ := h; rfl)
      | (obtain ⟨_, _, _, _, _, _, _, _, _, _, _, _, rfl, _⟩ := h; rfl)
      | (obtain ⟨_, _, _, _, _, _, _, _, _, _, _, _, _, rfl, _⟩ := h; rfl)
      | (obtain ⟨_, _, _, _, _, _, _, _, _, _, _, _, _, _, rfl, _⟩ := h; rfl)
      | (obtain ⟨_, _, _, _, _, _, _, _, _, _, _, _, _, _, _, rfl, _⟩ := h; rfl)
      | (obtain ⟨_, _, _, _, _, _, _, _, _, _, _, _, _, _, _, _, rfl, _⟩ := h; rfl)
      | (obtain ⟨_, _, _, _, _, _, _, _, _, _, _, _, _, _, _, _, _, rfl, _⟩ := h; rfl)
      | (obtain ⟨_, _, _, _, _, _, _, _, _, _, _, _, _, _, _, _, _, _, rfl, _⟩ := h; rfl)
      | (obtain ⟨_, _, _, _, _, _, _, _, _, _, _, _, _, _, _, _, _, _, _, rfl, _⟩ := h; rfl)
  · obtain ⟨a, ns, i, rfl, hsq, hi, k⟩ := h
    refine ⟨_, (pss_cons (ps_set (i := 2) sc_law_pot.nd rfl (Or.inl rfl) (pe_ifExp (pt_cmpR op_lt (pv 1) (pe_callB (k_len (K := K) rfl) (by rfl) T.n_len (by decide +kernel) (pa_cons (pv 0) pa_nil)) (nomark _)) (pe_ix (k_ix (K := K) rfl) (pv 0) (pv 1) (fun _ _ => rfl)) (pe_op (k_add (K := K) rfl) (pe_op o_mul pe_int (pv 1)) pe_int)))
      (pss_one (ps_ret (pe_lst (pa_cons (pe_callB (c_max2 rfl) (by rfl) T.n_max (by decide +kernel) (pa_cons pe_int (pa_cons (pe_op op_sub (pe_callB c_abs (by rfl) T.n_abs (by decide +kernel) (pa_cons (pv 2) pa_nil)) (pe_op o_pow pe_int pe_int)) pa_nil))) (pa_cons (pe_op (k_add (K := K) rfl) (pe_op (k_add (K := K) rfl) (pe_op o_mod (pe_callB c_abs (by rfl) T.n_abs (by decide +kernel) (pa_cons (pv 2) pa_nil)) pe_int) (pe_op o_mul pe_int (pv 1))) pe_int) pa_nil)))))), ?_⟩
    dsimp only [cxOf, st_1, st_2, st_3, st_4, st_5, st_6, List.length_cons, List.length_nil, List.replicate_succ, List.replicate_zero, Nat.reduceAdd, Nat.reduceSub]
    walk_at "gs"
    refine i_dec (fun h0 => ?_) (fun h0 => ?_)
    · rw [List.length_map] at h0
      have hx : (ns.map V.int)[i]? = some (V.int (ns[i]'(by omega))) := by simp
      have hat := atI_nat hx
      walk_at "gs"
      refine i_new fun p hp => ?_
      refine k p _ hp (Kp.new hp) ⟨_, _, upd_same, ?_, ?_, ?_⟩ <;> omega
    · walk_at "gs"
      refine i_new fun p hp => ?_
      refine k p _ hp (Kp.new hp) ⟨_, _, upd_same, ?_, ?_, ?_⟩ <;> omega
def sp_law_draw : Sp := fun vs H Q _ => ∃ (p : Addr) (n : Int), vs = [.ref p, .int n] ∧ PotAt H p ∧ 0 < n ∧
  n ≤ 10000000000000000000000000000000000000000000000000000000000000000000000 ∧
  ∀ r H', 0 ≤ r → r < n → PotAt H' p → Kp [p] H H' → Q (.int r) H'
theorem sc_law_draw : FnScope ["_law_pot_here", "_law_many", "_law_digit"] ["_law_pot_here", "_law_many"] (defScope s_law_draw) :=
  ⟨rfl, rfl, rfl, by decide +kernel, rfl, by decide +kernel, by decide +kernel⟩
theorem ok_law_draw {P : Program} {w : World} {K : PySem.W.Frag} {mg : Str → Option Value} {base : Heap} (T : Txt w K mg) :
    FnG P w K mg base 1 T.a_law_draw T.d_law_draw ["_law_pot_here", "_law_many"] sp_law_draw := by
  refine okD T.F_law_draw sc_law_draw (fun vs H Q E h => ?_) (fun cdv A outer s H vs Q E hr h => ?_)
  · first
      | (obtain ⟨_, rfl, _⟩ := h; rfl)
      | (obtain ⟨_, _, rfl, _⟩ := h; rfl)
      | (obtain ⟨_, _, _, rfl, _⟩ := h; rfl)
      | (obtain ⟨_, _, _, _, rfl, _⟩ := h; rfl)
      | (obtain ⟨_, _, _, _, _, rfl, _⟩ := h; rfl)
      | (obtain ⟨_, _, _, _, _, _, rfl, _⟩ := h; rfl)
      | (obtain ⟨_, _, _, _, _, _, _, rfl, _⟩ := h; rfl)
      | (obtain ⟨_, _, _, _, _, _, _, _, rfl, _⟩ := h; rfl)
      | (obtain ⟨_, _, _, _, _, _, _, _, _, rfl, _⟩ := h; rfl)
      | (obtain ⟨_, _, _, _, _, _, _, _, _, _, rfl, _⟩ := h; rfl)
      | (obtain ⟨_, _, _, _, _, _, _, _, _, _, _, rfl, _⟩ := h; rfl)
      | (obtain ⟨_, _, _, _, _, _, _, _, _, _, _, _, rfl, _⟩ := h; rfl)
      | (obtain ⟨_, _, _, _, _, _, _, _, _, _, _, _, _, rfl, _⟩ := h; rfl)
      | (obtain ⟨_, _, _, _, _, _, _, _, _, _, _, _, _, _, rfl, _⟩ := h; rfl)
      | (obtain ⟨_, _, _, _, _, _, _, _, _, _, _, _, _, _, _, rfl, _⟩ := h; rfl)
      | (obtain ⟨_, _, _, _, _, _, _, _, _, _, _, _, _, _, _, _, rfl, _⟩ := h; rfl)
      | (obtain ⟨_, _, _, _, _, _, _, _, _, _, _, _, _, _, _, _, _, rfl, _⟩ := h; rfl)
      | (obtain ⟨_, _, _, _, _, _, _, _, _, _, _, _, _, _, _, _, _, _, rfl, _⟩ := h; rfl)
      | (obtain ⟨_, _, _, _, _, _, _, _, _, _, _, _, _, _, _, _, _, _, _, rfl, _⟩ := h; rfl)
  · obtain ⟨p, n, rfl, ⟨x, y, hp, hx, hy, hy2⟩, h0, h1, k⟩ := h
    refine ⟨_, (pss_cons (ps_if (pt_cmpR op_gt (pe_ix (k_ix (K := K) rfl) (pv 0) pe_int (fun _ _ => rfl)) pe_int (nomark _)) (pss_cons (ps_asg (pe_callB c_dm (by rfl) T.n_divmod (by decide +kernel) (pa_cons (pe_ix (k_ix (K := K) rfl) (pv 0) pe_int (fun _ _ => rfl)) (pa_cons (pv 1) pa_nil))) (k_gtup (K := K) 2 rfl rfl (pgs_cons (pg_sub (pv 0) pe_int set_list) (pgs_cons (pg_name (i := 2) sc_law_draw.nd rfl (Or.inl rfl)) pgs_nil))))
      (pss_one (ps_ret (pv 2)))) pss_nil)
      (pss_cons (ps_asg (pe_op o_mod (pe_op (k_add (K := K) rfl) (pe_op o_mul (pe_ix (k_ix (K := K) rfl) (pv 0) pe_int (fun _ _ => rfl)) pe_int) pe_int) pe_int) (pg_sub (pv 0) pe_int set_list))
      (pss_one (ps_ret (pe_op o_mod (pe_op o_div (pe_op o_mod (pe_op o_mul (pe_ix (k_ix (K := K) rfl) (pv 0) pe_int (fun _ _ => rfl)) (pe_ix (k_ix (K := K) rfl) (pv 0) pe_int (fun _ _ => rfl))) pe_int) pe_int) (pv 1)))))), ?_⟩
    dsimp only [cxOf, st_1, st_2, st_3, st_4, st_5, st_6, List.length_cons, List.length_nil, List.replicate_succ, List.replicate_zero, Nat.reduceAdd, Nat.reduceSub]
    walk_at "gs"
    refine i_dec (fun hx0 => ?_) (fun hx0 => ?_)
    · walk_at "gs"
      refine i_new fun q hq => ?_
      walk_at "gs"
      refine k _ _ (Int.emod_nonneg _ (by omega)) (Int.emod_lt_of_pos _ h0) ⟨_, _, upd_same, ?_, hy, hy2⟩ ?_
      · exact Int.ediv_nonneg hx (by omega)
      · walk_at "g_kp"
    · walk_at "gs"
      refine k _ _ (Int.emod_nonneg _ (by omega)) (Int.emod_lt_of_pos _ h0) ⟨_, _, upd_same, hx, ?_, ?_⟩ ?_
      · omega
      · omega
      · walk_at "g_kp"
theorem use_draw {H : Hp} {Q : VK} {E : XK} {p : Addr} {n : Int} (hp : PotAt H p) (h0 : 0 < n)
    (h1 : n ≤ 10000000000000000000000000000000000000000000000000000000000000000000000)
    (k : ∀ r H', 0 ≤ r → r < n → PotAt H' p → Kp [p] H H' → Q (.int r) H') :
    sp_law_draw [.ref p, .int n] H Q E := ⟨p, n, rfl, hp, h0, h1, k⟩

/-! ### data of any kind -/
section
variable {K : PySem.W.Frag} {H H' : Hp} {ws : List Addr}
mutual
/-- data none of whose lists is in ws -/
inductive Dx (K : PySem.W.Frag) (H : Hp) (ws : List Addr) : V → PyData → Prop
  | non : Dx K H ws .non .none
  | bl (b : Bool) : Dx K H ws (.bl b) (.bool b)
  | int (i : Int) : Dx K H ws (.int i) (.int i)
  | str (x : Str) : Dx K H ws (.str x) (.str x)
  | lst {a : Addr} {xs : List V} {ds : List PyData} : a ∉ ws → H a = some (.lst xs) → DxAll K H ws xs ds → Dx K H ws (.ref a) (.list ds)
  | tup {a : Addr} {xs : List V} {ds : List PyData} : SqT K H a xs → DxAll K H ws xs ds → Dx K H ws (.ref a) (.tuple ds)
inductive DxAll (K : PySem.W.Frag) (H : Hp) (ws : List Addr) : List V → List PyData → Prop
  | nil : DxAll K H ws [] []
  | cons {v : V} {vs : List V} {d : PyData} {ds : List PyData} : Dx K H ws v d → DxAll K H ws vs ds → DxAll K H ws (v :: vs) (d :: ds)
end
mutual
theorem Dx.dp : ∀ (d : PyData) (v : V), Dx K H ws v d → Dp K H v d
  | .none, _, h => by cases h; exact .non
  | .bool b, _, h => by cases h; exact .bl b
  | .int i, _, h => by cases h; exact .int i
  | .str x, _, h => by cases h; exact .str x
  | .list ds, _, h => by
    cases h with
    | lst _ hs ha => exact .lst (SqL.of hs) (DxAll.dp ds _ ha)
  | .tuple ds, _, h => by
    cases h with
    | tup hs ha => exact .tup hs (DxAll.dp ds _ ha)
  | .dict _, _, h => by cases h
theorem DxAll.dp : ∀ (ds : List PyData) (vs : List V), DxAll K H ws vs ds → DpAll K H vs ds
  | [], _, h => by cases h; exact .nil
  | d :: ds, _, h => by
    cases h with
    | cons h1 h2 => exact .cons (Dx.dp d _ h1) (DxAll.dp ds _ h2)
end
mutual
theorem Dx.kp (k : Kp ws H H') : ∀ (d : PyData) (v : V), Dx K H ws v d → Dx K H' ws v d
  | .none, _, h => by cases h; exact .non
  | .bool b, _, h => by cases h; exact .bl b
  | .int i, _, h => by cases h; exact .int i
  | .str x, _, h => by cases h; exact .str x
  | .list ds, _, h => by
    cases h with
    | lst n hs ha => exact .lst n (k.at_ _ _ hs n) (DxAll.kp k ds _ ha)
  | .tuple ds, _, h => by
    cases h with
    | tup hs ha => exact .tup (k.seqT hs) (DxAll.kp k ds _ ha)
  | .dict _, _, h => by cases h
theorem DxAll.kp (k : Kp ws H H') : ∀ (ds : List PyData) (vs : List V), DxAll K H ws vs ds → DxAll K H' ws vs ds
  | [], _, h => by cases h; exact .nil
  | d :: ds, _, h => by
    cases h with
    | cons h1 h2 => exact .cons (Dx.kp k d _ h1) (DxAll.kp k ds _ h2)
end
mutual
theorem dx_imm : ∀ (d : PyData) (v : V), imm d = true → Dp K H v d → Dx K H ws v d
  | .none, _, _, h => by cases h; exact .non
  | .bool b, _, _, h => by cases h; exact .bl b
  | .int i, _, _, h => by cases h; exact .int i
  | .str x, _, _, h => by cases h; exact .str x
  | .list ds, _, e, h => by simp [imm] at e
  | .tuple ds, _, e, h => by
    cases h with
    | tup hs ha => exact .tup hs (dxs_imm ds _ (by simpa [imm] using e) ha)
  | .dict _, _, _, h => by cases h
theorem dxs_imm : ∀ (ds : List PyData) (vs : List V), imms ds = true → DpAll K H vs ds → DxAll K H ws vs ds
  | [], _, _, h => by cases h; exact .nil
  | d :: ds, _, e, h => by
    cases h with
    | cons h1 h2 =>
      simp only [imms, Bool.and_eq_true] at e
      exact .cons (dx_imm d _ e.1 h1) (dxs_imm ds _ e.2 h2)
end
mutual
theorem Dx.wider {us : List Addr} (hu : ∀ b ∈ us, ∀ xs, H b ≠ some (.lst xs)) : ∀ (d : PyData) (v : V), Dx K H ws v d → Dx K H (us ++ ws) v d
  | .none, _, h => by cases h; exact .non
  | .bool b, _, h => by cases h; exact .bl b
  | .int i, _, h => by cases h; exact .int i
  | .str x, _, h => by cases h; exact .str x
  | .list ds, _, h => by
    cases h with
    | lst n hs ha => exact .lst (fun z => (List.mem_append.mp z).elim (fun z => hu _ z _ hs) n) hs (DxAll.wider hu ds _ ha)
  | .tuple ds, _, h => by
    cases h with
    | tup hs ha => exact .tup hs (DxAll.wider hu ds _ ha)
  | .dict _, _, h => by cases h
theorem DxAll.wider {us : List Addr} (hu : ∀ b ∈ us, ∀ xs, H b ≠ some (.lst xs)) : ∀ (ds : List PyData) (vs : List V), DxAll K H ws vs ds → DxAll K H (us ++ ws) vs ds
  | [], _, h => by cases h; exact .nil
  | d :: ds, _, h => by
    cases h with
    | cons h1 h2 => exact .cons (Dx.wider hu d _ h1) (DxAll.wider hu ds _ h2)
end
theorem dxa_len : ∀ {ds : List PyData} {vs : List V}, DxAll K H ws vs ds → vs.length = ds.length
  | [], _, h => by cases h; rfl
  | d :: ds, _, h => by
    cases h with
    | cons h1 h2 => rw [List.length_cons, List.length_cons, dxa_len h2]
theorem dxa_get : ∀ {ds : List PyData} {vs : List V} {i : Nat} {v : V}, DxAll K H ws vs ds → vs[i]? = some v → ∃ d, ds[i]? = some d ∧ Dx K H ws v d
  | [], _, _, _, h, e => by
    cases h
    simp at e
  | d :: ds, _, 0, _, h, e => by
    cases h with
    | cons h1 h2 =>
      cases e
      exact ⟨d, rfl, h1⟩
  | d :: ds, _, i + 1, _, h, e => by
    cases h with
    | cons h1 h2 =>
      obtain ⟨q, e1, e2⟩ := dxa_get (i := i) h2 (by simpa using e)
      exact ⟨q, by simpa using e1, e2⟩
theorem dxa_app : ∀ {ds es : List PyData} {vs us : List V}, DxAll K H ws vs ds → DxAll K H ws us es → DxAll K H ws (vs ++ us) (ds ++ es)
  | [], _, _, _, h, h' => by
    cases h
    exact h'
  | d :: ds, _, _, _, h, h' => by
    cases h with
    | cons h1 h2 => exact .cons h1 (dxa_app h2 h')
theorem dxa_set : ∀ {ds : List PyData} {vs : List V} {i : Nat} {v : V} {d : PyData}, DxAll K H ws vs ds → Dx K H ws v d → DxAll K H ws (vs.set i v) (ds.set i d)
  | [], _, _, _, _, h, _ => by
    cases h
    exact .nil
  | _ :: ds, _, 0, _, _, h, h' => by
    cases h with
    | cons h1 h2 => exact .cons h' h2
  | _ :: ds, _, i + 1, _, _, h, h' => by
    cases h with
    | cons h1 h2 => exact .cons h1 (dxa_set h2 h')
theorem dxa_take : ∀ {ds : List PyData} {vs : List V} (i : Nat), DxAll K H ws vs ds → DxAll K H ws (vs.take i) (ds.take i)
  | [], _, _, h => by
    cases h
    rw [List.take_nil, List.take_nil]
    exact .nil
  | _ :: ds, _, 0, h => by
    rw [List.take_zero, List.take_zero]
    exact .nil
  | _ :: ds, _, i + 1, h => by
    cases h with
    | cons h1 h2 => exact .cons h1 (dxa_take i h2)
theorem dxa_drop : ∀ {ds : List PyData} {vs : List V} (i : Nat), DxAll K H ws vs ds → DxAll K H ws (vs.drop i) (ds.drop i)
  | [], _, _, h => by
    cases h
    rw [List.drop_nil, List.drop_nil]
    exact .nil
  | _ :: ds, _, 0, h => h
  | _ :: ds, _, i + 1, h => by
    cases h with
    | cons h1 h2 => exact dxa_drop i h2
/-- data, or an empty dict -/
def Tg (K : PySem.W.Frag) (H : Hp) (ws : List Addr) (v : V) (d : PyData) : Prop := Dx K H ws v d ∨ (d = .dict [] ∧ ∃ a, v = .ref a ∧ H a = some (.dK []) ∧ a ∉ ws)
theorem Tg.kp {v : V} {d : PyData} (t : Tg K H ws v d) (k : Kp ws H H') : Tg K H' ws v d := by
  rcases t with h | ⟨rfl, a, rfl, h, n⟩
  · exact .inl (h.kp k _ _)
  · exact .inr ⟨rfl, a, rfl, k.at_ _ _ h n, n⟩
theorem Tg.ty {v : V} {d : PyData} (t : Tg K H ws v d) : TyX K H v (.type (dty d)) := by
  rcases t with h | ⟨rfl, a, rfl, h, n⟩
  · exact dp_ty (h.dp _ _)
  · exact .base (.dK h)
theorem i_isT {T : String} {b : Bool} {Q : VK} {v : V} {d : PyData} (t : Tg K H ws v d) (e : kitB (dty d) T = some b) (h : Q (.bl b) H) :
    rIsi K [v, .ty T] H Q := ⟨v, .ty T, _, _, b, rfl, .ty T, t.ty, L2.kit_ty e, h⟩
def kInt : PyData → Bool
  | .int _ => true
  | .bool _ => true
  | _ => false
def kBool : PyData → Bool
  | .bool _ => true
  | _ => false
def kTup : PyData → Bool
  | .tuple _ => true
  | _ => false
def kLst : PyData → Bool
  | .list _ => true
  | _ => false
theorem kit_int (d : PyData) : kitB (dty d) "int" = some (kInt d) := by cases d <;> (simp only [dty, kInt]; decide +kernel)
theorem kit_bool (d : PyData) : kitB (dty d) "bool" = some (kBool d) := by cases d <;> (simp only [dty, kBool]; decide +kernel)
theorem kit_tup (d : PyData) : kitB (dty d) "tuple" = some (kTup d) := by cases d <;> (simp only [dty, kTup]; decide +kernel)
theorem kit_lst (d : PyData) : kitB (dty d) "list" = some (kLst d) := by cases d <;> (simp only [dty, kLst]; decide +kernel)
theorem i_bool2 {b : Bool} {A B : Prop} (h1 : b = true → A) (h2 : b = false → B) : if b = true then A else B := by
  cases b
  · exact iteF (h2 rfl)
  · exact iteT (h1 rfl)
def isI : PyData → Bool
  | .int _ => true
  | _ => false
def whD (d : PyData) (a b : Int) : Bool :=
  match d with
  | .int n => decide (a ≤ n ∧ n ≤ b)
  | _ => false
theorem isI_eq (d : PyData) : isI d = (kInt d && !kBool d) := by cases d <;> rfl
theorem isI_int {d : PyData} (h : isI d = true) : ∃ n, d = .int n := by
  cases d with
  | int n => exact ⟨n, rfl⟩
  | _ => cases h
theorem whD_no {d : PyData} {a b : Int} (h : isI d = false) : whD d a b = false := by
  cases d with
  | int n => cases h
  | _ => rfl
theorem whD_int {d : PyData} {a b : Int} (h : whD d a b = true) : ∃ n, d = .int n ∧ a ≤ n ∧ n ≤ b := by
  cases d with
  | int n => exact ⟨n, rfl, of_decide_eq_true h⟩
  | _ => cases h
end

/-! ### numbers, asked of anything -/
def Any (K : PySem.W.Frag) (H : Hp) (v : V) (d : PyData) : Prop := TyX K H v (.type (dty d)) ∧ ∀ n, d = .int n → v = .int n
theorem Any.dp {K : PySem.W.Frag} {H : Hp} {v : V} {d : PyData} (h : Dp K H v d) : Any K H v d := ⟨dp_ty h, fun n e => by
  subst e
  cases h
  rfl⟩
theorem Any.int {K : PySem.W.Frag} {H : Hp} (n : Int) : Any K H (.int n) (.int n) := .dp (.int n)
theorem i_isA {K : PySem.W.Frag} {H : Hp} {T : String} {b : Bool} {Q : VK} {v : V} {d : PyData} (t : Any K H v d) (e : kitB (dty d) T = some b) (h : Q (.bl b) H) :
    rIsi K [v, .ty T] H Q := ⟨v, .ty T, _, _, b, rfl, .ty T, t.1, L2.kit_ty e, h⟩

def sp_is_number (K : PySem.W.Frag) : Sp := fun vs H Q _ => ∃ (v : V) (d : PyData), vs = [v] ∧ Any K H v d ∧ Q (.bl (isI d)) H
theorem sc_is_number : FnScope ["thing"] ["thing"] (defScope s_is_number) :=
  ⟨rfl, rfl, rfl, by decide +kernel, rfl, by decide +kernel, by decide +kernel⟩
theorem ok_is_number {P : Program} {w : World} {K : PySem.W.Frag} {mg : Str → Option Value} {base : Heap} (T : Txt w K mg) :
    FnG P w K mg base 1 T.a_is_number T.d_is_number ["thing"] (sp_is_number K) := by
  refine okD T.F_is_number sc_is_number (fun vs H Q E h => ?_) (fun cdv A outer s H vs Q E hr h => ?_)
  · first
      | (obtain ⟨_, rfl, _⟩ := h; rfl)
      | (obtain ⟨_, _, rfl, _⟩ := h; rfl)
      | (obtain ⟨_, _, _, rfl, _⟩ := h; rfl)
      | (obtain ⟨_, _, _, _, rfl, _⟩ := h; rfl)
      | (obtain ⟨_, _, _, _, _, rfl, _⟩ := h; rfl)
      | (obtain ⟨_, _, _, _, _, _, rfl, _⟩ := h; rfl)
      | (obtain ⟨_, _, _, _, _, _, _, rfl, _⟩ := h; rfl)
      | (obtain ⟨_, _, _, _, _, _, _, _, rfl, _⟩ := h; rfl)
      | (obtain ⟨_, _, _, _, _, _, _, _, _, rfl, _⟩ := h; rfl)
      | (obtain ⟨_, _, _, _, _, _, _, _, _, _, rfl, _⟩ := h; rfl)
      | (obtain ⟨_, _, _, _, _, _, _, _, _, _, _, rfl, _⟩ := h; rfl)
      | (obtain ⟨_, _, _, _, _, _, _, _, _, _, _, _, rfl, _⟩ := h; rfl)
      | (obtain ⟨_, _, _, _, _, _, _, _, _, _, _, _, _, rfl, _⟩ := h; rfl)
      | (obtain ⟨_, _, _, _, _, _, _, _, _, _, _, _, _, _, rfl, _⟩ := h; rfl)
      | (obtain ⟨_, _, _, _, _, _, _, _, _, _, _, _, _, _, _, rfl, _⟩ := h; rfl)
      | (obtain ⟨_, _, _, _, _, _, _, _, _, _, _, _, _, _, _, _, rfl, _⟩ := h; rfl)
      | (obtain ⟨_, _, _, _, _, _, _, _, _, _, _, _, _, _, _, _, _, rfl, _⟩ := h; rfl)
      | (obtain ⟨_, _, _, _, _, _, _, _, _, _, _, _, _, _, _, _, _, _, rfl, _⟩ := h; rfl)
      | (obtain ⟨_, _, _, _, _, _, _, _, _, _, _, _, _, _, _, _, _, _, _, rfl, _⟩ := h; rfl)
  · obtain ⟨v, d, rfl, hd, k⟩ := h
    rw [isI_eq] at k
    refine ⟨_, (pss_one (ps_ret (pe_and (pe_callB (k_isi (K := K) rfl) (by rfl) T.n_isinstance (by decide +kernel) (pa_cons (pv 0) (pa_cons (pe_bltn (v := .ty "int") (by rfl) T.n_int (by decide +kernel) rfl) pa_nil))) (pe_one (pe_not (pe_callB (k_isi (K := K) rfl) (by rfl) T.n_isinstance (by decide +kernel) (pa_cons (pv 0) (pa_cons (pe_bltn (v := .ty "bool") (by rfl) T.n_bool (by decide +kernel) rfl) pa_nil)))))))), ?_⟩
    dsimp only [cxOf, st_1, st_2, st_3, st_4, st_5, st_6, List.length_cons, List.length_nil, List.replicate_succ, List.replicate_zero, Nat.reduceAdd, Nat.reduceSub]
    walk_at "gs"
    refine i_isA hd (kit_int d) ?_
    walk_at "gs"
    refine i_bool2 (fun c => ?_) (fun c => ?_)
    · walk_at "gs"
      refine i_isA hd (kit_bool d) ?_
      walk_at "gs"
      rw [c, Bool.true_and] at k
      exact k
    · rw [c, Bool.false_and] at k
      exact k
theorem number_int {K : PySem.W.Frag} {n : Int} {H : Hp} {Q : VK} {E : XK} (h : Q (.bl true) H) : sp_is_number K [.int n] H Q E := ⟨.int n, .int n, rfl, .int n, h⟩
def sp_is_whole (K : PySem.W.Frag) : Sp := fun vs H Q _ => ∃ (v : V) (d : PyData) (a b : Int), vs = [v, .int a, .int b] ∧ Any K H v d ∧ Q (.bl (whD d a b)) H
theorem sc_is_whole : FnScope ["thing", "least", "most"] ["thing", "least", "most"] (defScope s_is_whole) :=
  ⟨rfl, rfl, rfl, by decide +kernel, rfl, by decide +kernel, by decide +kernel⟩
theorem ok_is_whole {P : Program} {w : World} {K : PySem.W.Frag} {mg : Str → Option Value} {base : Heap} (T : Txt w K mg) :
    FnG P w K mg base 2 T.a_is_whole T.d_is_whole ["thing", "least", "most"] (sp_is_whole K) := by
  refine okD T.F_is_whole sc_is_whole (fun vs H Q E h => ?_) (fun cdv A outer s H vs Q E hr h => ?_)
  · first
      | (obtain ⟨_, rfl, _⟩ := h; rfl)
      | (obtain ⟨_, _, rfl, _⟩ := h; rfl)
      | (obtain ⟨_, _, _, rfl, _⟩ := h; rfl)
      | (obtain ⟨_, _, _, _, rfl, _⟩ := h; rfl)
      | (obtain ⟨_, _, _, _, _, rfl, _⟩ := h; rfl)
      | (obtain ⟨_, _, _, _, _, _, rfl, _⟩ := h; rfl)
      | (obtain ⟨_, _, _, _, _, _, _, rfl, _⟩ := h; rfl)
      | (obtain ⟨_, _, _, _, _, _, _, _, rfl, _⟩ := h; rfl)
      | (obtain ⟨_, _, _, _, _, _, _, _, _, rfl, _⟩ := h; rfl)
      | (obtain ⟨_, _, _, _, _, _, _, _, _, _, rfl, _⟩ := h; rfl)
      | (obtain ⟨_, _, _, _, _, _, _, _, _, _, _, rfl, _⟩ := h; rfl)
      | (obtain ⟨_, _, _, _, _, _, _, _, _, _, _, _, rfl, _⟩ := h; rfl)
      | (obtain ⟨_, _, _, _, _, _, _, _, _, _, _, _, _, rfl, _⟩ := h; rfl)
      | (obtain ⟨_, _, _, _, _, _, _, _, _, _, _, _, _, _, rfl, _⟩ := h; rfl)
      | (obtain ⟨_, _, _, _, _, _, _, _, _, _, _, _, _, _, _, rfl, _⟩ := h; rfl)
      | (obtain ⟨_, _, _, _, _, _, _, _, _, _, _, _, _, _, _, _, rfl, _⟩ := h; rfl)
      | (obtain ⟨_, _, _, _, _, _, _, _, _, _, _, _, _, _, _, _, _, rfl, _⟩ := h; rfl)
      | (obtain ⟨_, _, _, _, _, _, _, _, _, _, _, _, _, _, _, _, _, _, rfl, _⟩ := h; rfl)
      | (obtain ⟨_, _, _, _, _, _, _, _, _, _, _, _, _, _, _, _, _, _, _, rfl, _⟩ := h; rfl)
  · obtain ⟨v, d, a, b, rfl, hd, k⟩ := h
    refine ⟨_, (pss_one (ps_ret (pe_and (d1 (ok_is_number T) (hr.mono (by decide)) (by rfl) T.m_is_number T.F_is_number.kp T.b_is_number passL (pa_cons (pv 0) pa_nil)) (pe_one (pe_chain op_le op_le (pv 1) (pv 0) (pv 2)))))), ?_⟩
    dsimp only [cxOf, st_1, st_2, st_3, st_4, st_5, st_6, List.length_cons, List.length_nil, List.replicate_succ, List.replicate_zero, Nat.reduceAdd, Nat.reduceSub]
    walk_at "gs"
    refine ⟨v, d, rfl, hd, ?_⟩
    walk_at "gs"
    refine i_bool2 (fun c => ?_) (fun c => ?_)
    · obtain ⟨n, rfl⟩ := isI_int c
      obtain rfl := hd.2 n rfl
      walk_at "gs"
      refine i_dec (fun c => ?_) (fun c => ?_)
      · walk_at "gs"
        have e : decide (n ≤ b) = whD (.int n) a b := by simp only [whD, c, true_and]
        rw [e]
        exact k
      · have e : false = whD (.int n) a b := by simp only [whD, c, false_and, decide_false]
        rw [e]
        exact k
    · rw [whD_no c] at k
      exact k
theorem whole_int {K : PySem.W.Frag} {n a b : Int} {H : Hp} {Q : VK} {E : XK} (h : Q (.bl (decide (a ≤ n ∧ n ≤ b))) H) : sp_is_whole K [.int n, .int a, .int b] H Q E := ⟨.int n, .int n, a, b, rfl, .int n, h⟩
def sp_is_size (K : PySem.W.Frag) : Sp := fun vs H Q _ => ∃ (v : V) (d : PyData), vs = [v] ∧ Any K H v d ∧ Q (.bl (whD d 1 1000000000000000000)) H
theorem sc_is_size : FnScope ["thing"] ["thing"] (defScope s_is_size) :=
  ⟨rfl, rfl, rfl, by decide +kernel, rfl, by decide +kernel, by decide +kernel⟩
theorem ok_is_size {P : Program} {w : World} {K : PySem.W.Frag} {mg : Str → Option Value} {base : Heap} (T : Txt w K mg) :
    FnG P w K mg base 3 T.a_is_size T.d_is_size ["thing"] (sp_is_size K) := by
  refine okD T.F_is_size sc_is_size (fun vs H Q E h => ?_) (fun cdv A outer s H vs Q E hr h => ?_)
  · first
      | (obtain ⟨_, rfl, _⟩ := h; rfl)
      | (obtain ⟨_, _, rfl, _⟩ := h; rfl)
      | (obtain ⟨_, _, _, rfl, _⟩ := h; rfl)
      | (obtain ⟨_, _, _, _, rfl, _⟩ := h; rfl)
      | (obtain ⟨_, _, _, _, _, rfl, _⟩ := h; rfl)
      | (obtain ⟨_, _, _, _, _, _, rfl, _⟩ := h; rfl)
      | (obtain ⟨_, _, _, _, _, _, _, rfl, _⟩ := h; rfl)
      | (obtain ⟨_, _, _, _, _, _, _, _, rfl, _⟩ := h; rfl)
      | (obtain ⟨_, _, _, _, _, _, _, _, _, rfl, _⟩ := h; rfl)
      | (obtain ⟨_, _, _, _, _, _, _, _, _, _, rfl, _⟩ := h; rfl)
      | (obtain ⟨_, _, _, _, _, _, _, _, _, _, _, rfl, _⟩ := h; rfl)
      | (obtain ⟨_, _, _, _, _, _, _, _, _, _, _, _, rfl, _⟩ := h; rfl)
      | (obtain ⟨_, _, _, _, _, _, _, _, _, _, _, _, _, rfl, _⟩ := h; rfl)
      | (obtain ⟨_, _, _, _, _, _, _, _, _, _, _, _, _, _, rfl, _⟩ := h; rfl)
      | (obtain ⟨_, _, _, _, _, _, _, _, _, _, _, _, _, _, _, rfl, _⟩ := h; rfl)
      | (obtain ⟨_, _, _, _, _, _, _, _, _, _, _, _, _, _, _, _, rfl, _⟩ := h; rfl)
      | (obtain ⟨_, _, _, _, _, _, _, _, _, _, _, _, _, _, _, _, _, rfl, _⟩ := h; rfl)
      | (obtain ⟨_, _, _, _, _, _, _, _, _, _, _, _, _, _, _, _, _, _, rfl, _⟩ := h; rfl)
      | (obtain ⟨_, _, _, _, _, _, _, _, _, _, _, _, _, _, _, _, _, _, _, rfl, _⟩ := h; rfl)
  · obtain ⟨v, d, rfl, hd, k⟩ := h
    refine ⟨_, (pss_one (ps_ret (d1 (ok_is_whole T) (hr.mono (by decide)) (by rfl) T.m_is_whole T.F_is_whole.kp T.b_is_whole passL (pa_cons (pv 0) (pa_cons pe_int (pa_cons (pe_glob (v := V.int 1000000000000000000) rfl T.g_LARGEST ⟨_, rfl⟩) pa_nil)))))), ?_⟩
    dsimp only [cxOf, st_1, st_2, st_3, st_4, st_5, st_6, List.length_cons, List.length_nil, List.replicate_succ, List.replicate_zero, Nat.reduceAdd, Nat.reduceSub]
    walk_at "gs"
    exact ⟨v, d, 1, _, rfl, hd, k⟩
theorem size_int {K : PySem.W.Frag} {n : Int} {H : Hp} {Q : VK} {E : XK} (h : Q (.bl (decide (1 ≤ n ∧ n ≤ 1000000000000000000))) H) : sp_is_size K [.int n] H Q E := ⟨.int n, .int n, rfl, .int n, h⟩
def sp_want_size : Sp := fun vs H Q _ => ∃ n : Int, vs = [.int n] ∧ (1 ≤ n ∧ n ≤ 1000000000000000000) ∧ Q .non H
def sp_want_number : Sp := fun vs H Q _ => ∃ n : Int, vs = [.int n] ∧ Q .non H
def sp_want_cell : Sp := fun vs H Q _ => ∃ c n : Int, vs = [.int c, .int n] ∧ (0 ≤ c ∧ c < n) ∧ Q .non H

/-! ### dicts of numbers, each True; sorted -/
theorem u1 {n : Nat} (h : n + 64 < cLine) : n + 1 < cLine := Nat.lt_of_le_of_lt (Nat.add_le_add_left (by decide) n) h
theorem k_sorted {X : Cx} {K : PySem.W.Frag} (h : X.K = K) : CallR X (.builtin "sorted") (rSortedI K) := h ▸ cr_sortedI
def rListD : List V → Hp → VK → Prop := fun xs H Q => ∃ (a : Addr) (kvs : List (Key × V)), xs = [.ref a] ∧ Rd H a (.dK kvs) ∧
  ∀ p, H p = none → Q (.ref p) (upd H p (.lst (kvs.map fun kv => kV kv.1)))
theorem k_listD {X : Cx} (h : X.calm = true) : CallR X (.type "list") rListD := call_listD h
def kT (n : Int) : Key × V := (.inl n, .bl true)
def addK (ns : List Int) (n : Int) : List Int := if n ∈ ns then ns else ns ++ [n]
theorem put_kT (ns : List Int) (n : Int) : putK (ns.map kT) (.inl n) (.bl true) = (addK ns n).map kT := by
  unfold putK addK
  have e1 : ((ns.map kT).any fun kv => decide (kv.1 = Sum.inl n)) = decide (n ∈ ns) := by
    induction ns with
    | nil => rfl
    | cons m ns ih =>
      rw [List.map_cons, List.any_cons, ih]
      by_cases c : m = n
      · subst c
        simp [kT]
      · have c2 : ¬ n = m := fun z => c z.symm
        simp [kT, c, c2]
  rw [e1]
  by_cases c : n ∈ ns
  · rw [if_pos (decide_eq_true c), if_pos c, List.map_map]
    refine List.map_congr_left fun m _ => ?_
    show (if (kT m).1 = Sum.inl n then ((kT m).1, V.bl true) else kT m) = kT m
    split <;> rfl
  · rw [if_neg (by simp [c]), if_neg c, List.map_append]
    rfl
theorem addK_len (ns : List Int) (n : Int) : (addK ns n).length ≤ ns.length + 1 := by
  unfold addK
  split
  · omega
  · simp
theorem foldK_len : ∀ (ms ns : List Int), (ms.foldl addK ns).length ≤ ns.length + ms.length
  | [], ns => Nat.le_refl _
  | m :: ms, ns => by
    have h := foldK_len ms (addK ns m)
    have h2 := addK_len ns m
    rw [List.foldl_cons, List.length_cons]
    omega
theorem mem_addK {ns : List Int} {n x : Int} : x ∈ addK ns n ↔ x ∈ ns ∨ x = n := by
  unfold addK
  by_cases c : n ∈ ns
  · rw [if_pos c]
    refine ⟨.inl, fun h => h.elim id fun e => by rw [e]; exact c⟩
  · rw [if_neg c, List.mem_append, List.mem_singleton]
theorem mem_foldK {x : Int} : ∀ (ms ns : List Int), x ∈ ms.foldl addK ns ↔ x ∈ ns ∨ x ∈ ms
  | [], ns => by simp
  | m :: ms, ns => by
    rw [List.foldl_cons, mem_foldK ms, mem_addK, List.mem_cons]
    constructor
    · rintro ((h | h) | h)
      · exact .inl h
      · exact .inr (.inl h)
      · exact .inr (.inr h)
    · rintro (h | h | h)
      · exact .inl (.inl h)
      · exact .inl (.inr h)
      · exact .inr h
theorem addK_nd {ns : List Int} {n : Int} (h : ns.Nodup) : (addK ns n).Nodup := by
  unfold addK
  by_cases c : n ∈ ns
  · rw [if_pos c]
    exact h
  · rw [if_neg c]
    refine List.nodup_append.mpr ⟨h, by simp, fun a ha b hb e => ?_⟩
    rw [List.mem_singleton.mp hb] at e
    rw [e] at ha
    exact c ha
theorem foldK_nd : ∀ (ms ns : List Int), ns.Nodup → (ms.foldl addK ns).Nodup
  | [], _, h => h
  | m :: ms, ns, h => foldK_nd ms _ (addK_nd h)
section
variable {K : PySem.W.Frag} {H : Hp} {Q : VK} {a l b : Addr} {ns : List Int} {n : Int} {σ : L2.St} {xs ys : List V} {P : Hp → Prop}
theorem i_sorted (h : SqL K H a (ns.map V.int)) (q : ∀ (ns' : List Int) (p : Addr), ns'.Perm ns → ns'.Pairwise (· ≤ ·) → Fr H p → Q (.ref p) (upd H p (.lst (ns'.map V.int)))) :
    rSortedI K [.ref a] H Q := ⟨a, ns, rfl, h, fun ns' p h1 h2 h3 => q ns' p h1 h2 ⟨h3⟩⟩
theorem i_listD (h : H a = some (.dK (ns.map kT))) (q : New H fun p => Q (.ref p) (upd H p (.lst (ns.map V.int)))) : rListD [.ref a] H Q := by
  refine ⟨a, _, rfl, Rd.of h, fun p hp => ?_⟩
  have e : ((ns.map kT).map fun kv => kV kv.1) = ns.map V.int := by
    rw [List.map_map]
    rfl
  rw [e]
  exact q p hp
theorem i_setD (h : H a = some (.dK (ns.map kT))) (hl : ns.length ≤ 1000000) (q : P (upd H a (.dK ((addK ns n).map kT)))) :
    rSetD (.ref a) (.int n) (.bl true) H P := by
  refine ⟨a, _, rfl, DPut.k (k := .inl n) h (by rw [List.length_map]; exact small_sz hl), ?_⟩
  rw [put_kT]
  exact q
theorem i_dict0 (q : New H fun p => Q (.ref p) (upd (upd H p (.dK [])) p (.dK ([(0 : Int)].map kT)))) : tDisp [(tC (.int 0), tC (.bl true))] σ H Q :=
  fun p hp => ⟨upd_same, [kT 0], rfl, by decide, q p hp⟩
theorem i_extend (h1 : H l = some (.lst xs)) (h2 : H b = some (.lst ys)) (hz : xs.length + ys.length ≤ 1000000) (q : Q .non (upd H l (.lst (xs ++ ys)))) :
    rExtend (.ref l) [.ref b] H Q := ⟨l, b, xs, ys, rfl, rfl, h1, h2, Nat.le_trans hz (by decide), q⟩
end
section
variable {σ : L2.St} {H H1 : Hp} {Q : VK} {d : Addr} {g : TG} {tt : TT} {te td : TE} {vs : List Nat} {o : Obj} {ns : List Int}
def LcB (J : It) (g : TG) (tt : TT) (te : TE) (vs : List Nat) (σ : L2.St) (H1 : Hp) (Q : VK) : Prop := ∀ D, H1 D = none →
    ∃ W : Nat → Nat → Hp → Prop, (∃ m, W 0 m (upd H1 D (.lst []))) ∧ ∀ i m H, W i m H →
      (J.stop i H ∧ Q (.ref D) H) ∨ (J.go i H ∧ ∃ Nx : Hp → Prop,
        (∀ H', Nx H' → ∃ m', m' < m ∧ W (i + 1) m' H') ∧
        ∀ x H', J.yld i H x H' → g x (wipe σ vs) H' fun σ2 H2 => wipe σ2 vs = wipe σ vs ∧ tt σ2 H2 fun b H3 =>
          if b = true then te σ2 H3 fun y H4 => ∃ acc, H4 D = some (.lst acc) ∧ acc.length < sizeLine ∧
            Nx (upd H4 D (.lst (acc ++ [y]))) else Nx H3)
def LcK (x : V) (g : TG) (tt : TT) (te : TE) (vs : List Nat) (σ : L2.St) (H1 : Hp) (Q : VK) : Prop := ∃ d o, x = .ref d ∧
  ((∃ kvs, H1 d = some (.frz o (.dK kvs)) ∧ LcB (Itk d o kvs) g tt te vs σ H1 Q) ∨ ∃ kvs, H1 d = some (.frz o (.dT kvs)) ∧ LcB (Itkt d o kvs) g tt te vs σ H1 Q)
theorem i_lcK (h : td σ H fun x H1 => LcK x g tt te vs σ H1 Q) : tLc (iKeys td) g tt te vs σ H Q := h
theorem i_keyz (hd : H d = some (.frz o (.dK (ns.map kT)))) (Pv : Addr → Nat → Hp → Prop)
    (h0 : ∀ R, Fr H R → Pv R 0 (upd H R (.lst [])))
    (hl : ∀ R i H', Fr H R → Pv R i H' → H' d = some (.frz o (.dK (ns.map kT))))
    (st : ∀ R i n H', Fr H R → ns[i]? = some n → Pv R i H' → g (.int n) (wipe σ vs) H' fun σ2 H2 =>
      wipe σ2 vs = wipe σ vs ∧ tt σ2 H2 fun b H3 => if b = true then te σ2 H3 fun y H4 =>
        ∃ acc, H4 R = some (.lst acc) ∧ acc.length < sizeLine ∧ Pv R (i + 1) (upd H4 R (.lst (acc ++ [y])))
        else Pv R (i + 1) H3)
    (hdn : ∀ R H', Fr H R → Pv R ns.length H' → Q (.ref R) H') : LcK (.ref d) g tt te vs σ H Q := by
  refine ⟨d, o, rfl, .inl ⟨_, hd, fun R hR => ⟨fun i m H' => m = ns.length - i ∧ i ≤ ns.length ∧ Pv R i H', ⟨_, rfl, Nat.zero_le _, h0 R ⟨hR⟩⟩, ?_⟩⟩⟩
  rintro i m H' ⟨rfl, hi, z⟩
  have q := hl R i H' ⟨hR⟩ z
  by_cases c : i < ns.length
  · refine .inr ⟨⟨q, by rw [List.length_map]; exact c⟩, Pv R (i + 1), fun H2 w => ⟨_, by omega, rfl, c, w⟩, ?_⟩
    rintro x H2 ⟨rfl, k, v, e, rfl⟩
    obtain ⟨n, hn, e2⟩ := map_get e
    cases e2
    exact st R i n _ ⟨hR⟩ hn z
  · have e : i = ns.length := by omega
    exact .inl ⟨⟨q, by rw [List.length_map]; omega⟩, hdn R H' ⟨hR⟩ (by rw [← e]; exact z)⟩
end

/-! ### small things -/
theorem kp_set {H : Hp} {d : Addr} {u v : HO} (h : H d = some u) (nu : ¬ Fix u) : Kp [d] H (upd H d v) := Kp.mut h nu (List.mem_singleton.mpr rfl)
theorem Any.tg {K : PySem.W.Frag} {H : Hp} {ws : List Addr} {v : V} {d : PyData} (t : Tg K H ws v d) : Any K H v d := ⟨t.ty, fun n e => by
  subst e
  rcases t with h | ⟨e, _⟩
  · cases h
    rfl
  · cases e⟩
theorem fr_not_tr {H : Hp} {b : Addr} (f : Fr H b) (t : Tr H b) : False := fr_tr t f rfl

/-! ### for over enumerate(list) -/
section
variable {K : PySem.W.Frag} {g : TG} {tb : TS} {D : Ends} {σ : L2.St} {H H1 : Hp} {a : Addr} {xs : List V} {ta : TA}
def ForE (K : PySem.W.Frag) (vs : List V) (g : TG) (tb : TS) (D : Ends) (σ : L2.St) (H1 : Hp) : Prop := ∃ a xs, vs = [.ref a] ∧ SqL K H1 a xs ∧ ∃ W : Nat → Nat → L2.St → Hp → Prop, (∃ m, W 0 m σ H1) ∧ ∀ i m σ H, W i m σ H →
  ((Ite K a).stop i H ∧ D.nx σ H) ∨ ((Ite K a).go i H ∧ ∃ N : L2.St → Hp → Prop, (∀ σ' H', N σ' H' → ∃ m', m' < m ∧ W (i + 1) m' σ' H') ∧ ∀ x H', (Ite K a).yld i H x H' → g x σ H' fun σ2 H2 => tb { D with nx := N, ct := N, bk := D.nx } σ2 H2)
theorem i_forE (h : ta σ H fun vs H1 => ForE K vs g tb D σ H1) : tFor (iEnum K ta) g tb D σ H := h
theorem i_eachE (hs : SqL K H a xs) (Pv : Nat → L2.St → Hp → Prop) (h0 : Pv 0 σ H) (hl : ∀ i σ H, i ≤ xs.length → Pv i σ H → SqL K H a xs)
    (st : ∀ i x T σ H, xs[i]? = some x → Pv i σ H → Fr H T → g (.ref T) σ (upd H T (.tup [.int (i : Nat), x])) fun σ2 H2 => tb { D with nx := Pv (i + 1), ct := Pv (i + 1), bk := D.nx } σ2 H2)
    (hdn : ∀ σ H, Pv xs.length σ H → D.nx σ H) : ForE K [.ref a] g tb D σ H := by
  refine ⟨a, xs, rfl, hs, fun i m σ H => m = xs.length - i ∧ i ≤ xs.length ∧ Pv i σ H, ⟨_, rfl, Nat.zero_le _, h0⟩, ?_⟩
  rintro i m σ H' ⟨rfl, hi, z⟩
  have q := hl i σ H' hi z
  by_cases c : i < xs.length
  · refine .inr ⟨⟨xs, xs[i], q, List.getElem?_eq_getElem c⟩, Pv (i + 1), fun σ2 H2 w => ⟨_, by omega, rfl, c, w⟩, ?_⟩
    rintro x H2 ⟨T, y, rfl, hT, rfl, hy⟩
    exact st i y T σ _ (hy xs q) z ⟨hT⟩
  · have e : i = xs.length := by omega
    exact .inl ⟨⟨xs, q, by omega⟩, hdn σ H' (by rw [← e]; exact z)⟩
end
theorem cutV_from {xs : List V} {k : Nat} (h : k ≤ xs.length) : cutV xs (some (k : Int)) none = xs.drop k := by
  unfold cutV
  rw [HT.sIx_none, HT.sIx_nat, Nat.min_eq_left h]
  exact List.take_of_length_le (by rw [List.length_drop]; omega)

theorem i_base {K : PySem.W.Frag} {B n1 n2 : String} {tl : List Value} {ta : TA} {σ : L2.St} {H : Hp} {Q : VK} (h : ta σ H fun vs H1 => ∃ (a C : Addr) (ws : List V), vs = .ref a :: ws ∧ ws.length ≤ 1000 ∧ XC K C B n1 n2 tl ∧ H1 a = some (exo a C none) ∧ Q .non H1) :
    tBase K B n1 n2 tl ta σ H Q := h
theorem i_put {K : PySem.W.Frag} {B n1 n2 : String} {tl : List Value} {f : Str} {to te : TE} {D : Ends} {σ : L2.St} {H : Hp} (h : te σ H fun y H1 => to σ H1 fun x H2 =>
    ∃ a C : Addr, x = .ref a ∧ XC K C B n1 n2 tl ∧ PySem.W.findIn K (.ref C) f = some none ∧ H2 a = some (exo a C none) ∧
      ∀ dx, H2 dx = none → dx ≠ a → D.nx σ (upd (upd H2 dx (exd dx [(f, y)])) a (exo a C (some dx)))) : tPut K B n1 n2 tl f to te D σ H := h
--%%M
local macro_rules | `(tactic| walk_at "g_own") => `(tactic| first
  | (with_reducible refine i_put ?_)
  | (with_reducible refine i_base ?_)
  | (with_reducible refine i_callX0 ?_)
  | (with_reducible refine i_callX ?_))
--%%E
def sp_xinit (C : Addr) (f : Str) : Sp := fun vs H Q _ => ∃ (a : Addr) (y : V), vs = [.ref a, y] ∧ H a = some (exo a C none) ∧
  ∀ dx, H dx = none → dx ≠ a → Q .non (upd (upd H dx (exd dx [(f, y)])) a (exo a C (some dx)))
theorem i_newX {C : Addr} {f : Str} {ta : TA} {σ : L2.St} {H : Hp} {Q : XK} (h : ta σ H fun vs H1 => ∃ v, vs = [v] ∧ ∀ d, Fr H1 d → Q (.ref C) (some d) (upd H1 d (.xd [(f, v)])))
    (mono : ∀ {P P' : List V → Hp → Prop}, (∀ vs H1, P vs H1 → P' vs H1) → ta σ H P → ta σ H P') : tNewX C (sp_xinit C f) ta σ H Q := by
  refine mono ?_ h
  rintro vs H1 ⟨v, rfl, k⟩
  refine ⟨by rw [List.length_singleton]; decide, fun a na => ⟨a, v, rfl, upd_same, fun dx n ne => ⟨rfl, dx, [(f, v)], upd_same, ?_, ?_, ?_⟩⟩⟩
  · rw [upd_ne ne]
    exact upd_same
  · rw [upd_ne ne] at n
    exact n
  · have n2 : H1 dx = none := by
      rw [upd_ne ne] at n
      exact n
    have e : upd (L2.del (upd (upd (upd H1 a (exo a C none)) dx (exd dx [(f, v)])) a (exo a C (some dx))) a) dx (.xd [(f, v)]) = upd H1 dx (.xd [(f, v)]) := by
      funext b
      by_cases z : b = dx
      · rw [z, upd_same, upd_same]
      · rw [upd_ne z, upd_ne z]
        by_cases z2 : b = a
        · rw [z2, L2.del_same, na]
        · rw [L2.del_ne z2, upd_ne z2, upd_ne z, upd_ne z2]
    rw [e]
    exact k dx ⟨n2⟩
theorem mono_cons {te : TE} {tr : TA} {σ : L2.St} {H : Hp} (h1 : ∀ {P P' : VK}, (∀ v H1, P v H1 → P' v H1) → te σ H P → te σ H P') (h2 : ∀ {H1 : Hp} {P P' : List V → Hp → Prop}, (∀ vs H2, P vs H2 → P' vs H2) → tr σ H1 P → tr σ H1 P')
    {P P' : List V → Hp → Prop} (k : ∀ vs H1, P vs H1 → P' vs H1) (z : tCons te tr σ H P) : tCons te tr σ H P' :=
  h1 (fun v H1 q => h2 (fun vs H2 r => k _ _ r) q) z
theorem mono_var {i : Nat} {σ : L2.St} {H : Hp} {P P' : VK} (k : ∀ v H1, P v H1 → P' v H1) (z : tVar i σ H P) : tVar i σ H P' := by
  obtain ⟨v, e, q⟩ := z
  exact ⟨v, e, k _ _ q⟩
theorem mono_nil {σ : L2.St} {H : Hp} {P P' : List V → Hp → Prop} (k : ∀ vs H1, P vs H1 → P' vs H1) (z : tNil σ H P) : tNil σ H P' := k _ _ z
theorem mono_c {c : V} {σ : L2.St} {H : Hp} {P P' : VK} (k : ∀ v H1, P v H1 → P' v H1) (z : tC c σ H P) : tC c σ H P' := k _ _ z

/-! ### what may stand where a sort is wanted -/
def limS (s : Str) (size many : Int) : Int := if s = "c" then size else if s = "r" then many + 1 else size + 1
def fitS (s : Str) (d : PyData) (size many : Int) : Bool := match d with
  | .int n => if s = "n" then true else decide (0 ≤ n ∧ n < limS s size many)
  | _ => false
def sorts5 : List Str := ["c", "n", "r", "b", "e"]
def fKs (size many : Int) : List (Key × V) := [(.inr "c", .int size), (.inr "r", .int (many + 1)), (.inr "b", .int (size + 1)), (.inr "e", .int (size + 1))]
def DispF (p : Addr) (Q : VK) (v1 v2 v3 v4 : V) (H : Hp) : Prop := H p = some (.dK []) ∧ ∃ kvs : List (Key × V), [(V.str "c", v1), (V.str "r", v2), (V.str "b", v3), (V.str "e", v4)] = kvs.map (fun kv => (kV kv.1, kv.2)) ∧ kvs.length ≤ 15 ∧ Q (.ref p) (upd H p (.dK (mergeK [] kvs)))
theorem i_dispF {σ : L2.St} {H : Hp} {Q : VK} {t1 t2 t3 t4 : TE} (q : ∀ p, Fr H p → t1 σ (upd H p (.dK [])) fun v1 H1 => t2 σ H1 fun v2 H2 => t3 σ H2 fun v3 H3 => t4 σ H3 fun v4 H4 => DispF p Q v1 v2 v3 v4 H4) :
    tDisp [(tC (.str "c"), t1), (tC (.str "r"), t2), (tC (.str "b"), t3), (tC (.str "e"), t4)] σ H Q := fun p hp => q p ⟨hp⟩
theorem i_dispFe {p : Addr} {Q : VK} {size many : Int} {H : Hp} (h : H p = some (.dK [])) (q : Q (.ref p) (upd H p (.dK (fKs size many)))) : DispF p Q (.int size) (.int (many + 1)) (.int (size + 1)) (.int (size + 1)) H := ⟨h, fKs size many, rfl, by show 4 ≤ 15; decide, q⟩
theorem fKs_get {s : Str} {size many : Int} (h : s ∈ sorts5) (n : s ≠ "n") : valV (fKs size many) (.inr s) = some (.int (limS s size many)) := by
  simp only [sorts5, List.mem_cons, List.not_mem_nil, or_false] at h
  rcases h with rfl | rfl | rfl | rfl | rfl
  · rfl
  · exact absurd rfl n
  · rfl
  · rfl
  · rfl
theorem dget_s {H : Hp} {a : Addr} {kvs : List (Key × V)} {z : Str} {v : V} (hd : H a = some (.dK kvs)) (hv : valV kvs (.inr z) = some v) : DGet H a (.str z) (some v) := by
  have e := DGet.k (k := .inr z) hd
  rw [hv] at e
  exact e
def sp_fits (K : PySem.W.Frag) : Sp := fun vs H Q _ => ∃ (s : Str) (v : V) (d : PyData) (size many : Int), vs = [.str s, v, .int size, .int many] ∧ s ∈ sorts5 ∧ Any K H v d ∧ ∀ H', Kp [] H H' → Q (.bl (fitS s d size many)) H'
theorem sc_fits : FnScope ["sort", "thing", "size", "many"] ["sort", "thing", "size", "many"] (defScope s_fits) :=
  ⟨rfl, rfl, rfl, by decide +kernel, rfl, by decide +kernel, by decide +kernel⟩
theorem ok_fits {P : Program} {w : World} {K : PySem.W.Frag} {mg : Str → Option Value} {base : Heap} (T : Txt w K mg) :
    FnG P w K mg base 2 T.a_fits T.d_fits ["sort", "thing", "size", "many"] (sp_fits K) := by
  refine okD T.F_fits sc_fits (fun vs H Q E h => ?_) (fun cdv A outer s H vs Q E hr h => ?_)
  · first
      | (obtain ⟨_, rfl, _⟩ := h; rfl)
      | (obtain ⟨_, _, rfl, _⟩ := h; rfl)
      | (obtain ⟨_, _, _, rfl, _⟩ := h; rfl)
      | (obtain ⟨_, _, _, _, rfl, _⟩ := h; rfl)
      | (obtain ⟨_, _, _, _, _, rfl, _⟩ := h; rfl)
      | (obtain ⟨_, _, _, _, _, _, rfl, _⟩ := h; rfl)
      | (obtain ⟨_, _, _, _, _, _, _, rfl, _⟩ := h; rfl)
      | (obtain ⟨_, _, _, _, _, _, _, _, rfl, _⟩ := h; rfl)
      | (obtain ⟨_, _, _, _, _, _, _, _, _, rfl, _⟩ := h; rfl)
      | (obtain ⟨_, _, _, _, _, _, _, _, _, _, rfl, _⟩ := h; rfl)
      | (obtain ⟨_, _, _, _, _, _, _, _, _, _, _, rfl, _⟩ := h; rfl)
      | (obtain ⟨_, _, _, _, _, _, _, _, _, _, _, _, rfl, _⟩ := h; rfl)
      | (obtain ⟨_, _, _, _, _, _, _, _, _, _, _, _, _, rfl, _⟩ := h; rfl)
      | (obtain ⟨_, _, _, _, _, _, _, _, _, _, _, _, _, _, rfl, _⟩ := h; rfl)
      | (obtain ⟨_, _, _, _, _, _, _, _, _, _, _, _, _, _, _, rfl, _⟩ := h; rfl)
      | (obtain ⟨_, _, _, _, _, _, _, _, _, _, _, _, _, _, _, _, rfl, _⟩ := h; rfl)
      | (obtain ⟨_, _, _, _, _, _, _, _, _, _, _, _, _, _, _, _, _, rfl, _⟩ := h; rfl)
      | (obtain ⟨_, _, _, _, _, _, _, _, _, _, _, _, _, _, _, _, _, _, rfl, _⟩ := h; rfl)
      | (obtain ⟨_, _, _, _, _, _, _, _, _, _, _, _, _, _, _, _, _, _, _, rfl, _⟩ := h; rfl)
  · obtain ⟨s, v, d, size, many, rfl, hs, hd, k⟩ := h
    refine ⟨_, (pss_cons (ps_if (pt_not (pt_val (d1 (ok_is_number T) (hr.mono (by decide)) (by rfl) T.m_is_number T.F_is_number.kp T.b_is_number passL (pa_cons (pv 1) pa_nil)))) (pss_one (ps_ret pe_bl)) pss_nil)
      (pss_cons (ps_if (pt_cmpR (k_eq (K := K) rfl hr.r.units) (pv 0) pe_str (nomark _)) (pss_one (ps_ret pe_bl)) pss_nil)
      (pss_one (ps_ret (pe_chain op_le op_lt pe_int (pv 1) (pe_dget (u1 hr.r.units) (pe_disp (pps_cons pe_str (pv 2) (pps_cons pe_str (pe_op (k_add (K := K) rfl) (pv 3) pe_int) (pps_cons pe_str (pe_op (k_add (K := K) rfl) (pv 2) pe_int) (pps_cons pe_str (pe_op (k_add (K := K) rfl) (pv 2) pe_int) pps_nil)))) (by rfl) (by rfl) (fun z => by cases z) (by decide)) (pv 0) (fun _ _ => rfl))))))), ?_⟩
    dsimp only [cxOf, st_1, st_2, st_3, st_4, st_5, st_6, List.length_cons, List.length_nil, List.replicate_succ, List.replicate_zero, Nat.reduceAdd, Nat.reduceSub]
    walk_at "gs"
    refine ⟨v, d, rfl, hd, ?_⟩
    walk_at "gs"
    refine i_bool2 (fun c => ?_) (fun c => ?_)
    · have e : isI d = false := by cases h : isI d <;> simp [h] at c ⊢
      have e2 : fitS s d size many = false := by
        cases d with
        | int n => cases e
        | _ => rfl
      walk_at "gs"
      rw [← e2]
      exact k H Kp.refl
    · have e : isI d = true := by cases h : isI d <;> simp [h] at c ⊢
      obtain ⟨n, rfl⟩ := isI_int e
      obtain rfl := hd.2 n rfl
      walk_at "gs"
      refine i_dec (fun e => ?_) (fun ne => ?_)
      · walk_at "gs"
        have e2 : fitS s (.int n) size many = true := by
          simp only [fitS]
          rw [if_pos e]
        rw [← e2]
        exact k H Kp.refl
      · have e2 : fitS s (.int n) size many = decide (0 ≤ n ∧ n < limS s size many) := by
          simp only [fitS]
          rw [if_neg ne]
        rw [e2] at k
        walk_at "gs"
        refine i_dec (fun h0 => ?_) (fun h0 => ?_)
        · walk_at "gs"
          refine i_dispF fun p fp => ?_
          walk_at "gs"
          refine i_dispFe upd_same ?_
          walk_at "gs"
          refine ⟨p, _, rfl, dget_s upd_same (fKs_get hs ne), ?_⟩
          walk_at "gs"
          have e3 : decide (0 ≤ n ∧ n < limS s size many) = decide (n < limS s size many) := by
            simp only [h0, true_and]
          rw [e3] at k
          have kp : Kp [] H (upd H p (.dK [])) := Kp.new fp
          have kq : Kp [p] (upd H p (.dK [])) (upd (upd H p (.dK [])) p (.dK (fKs size many))) := kp_set upd_same (fun z => z)
          exact k _ ((Kp.trans kp.wide kq).dropAll fun b hb => .inr (by rw [List.mem_singleton.mp hb]; exact fp))
        · have e3 : decide (0 ≤ n ∧ n < limS s size many) = false := decide_eq_false fun z => h0 z.1
          rw [e3] at k
          walk_at "gs"
          exact k H Kp.refl

/-! ### is_program_row, of anything -/
def sgn (s : Str) : List Str := s.cps.toList.map fun c => ⟨#[c]⟩
theorem signs_sgn (s : Str) : signs s = (sgn s).map V.str := by
  unfold signs sgn
  rw [List.map_map]
  rfl
def fitAll (ss : List Str) (ds : List PyData) (size many : Int) : Bool := (ss.zip ds).all fun q => fitS q.1 q.2 size many
def leFill : List PyData → Bool
  | .int a :: .int b :: _ => decide (a ≤ b)
  | _ => false
def rowTail (z s : Str) (ds : List PyData) (size many : Int) : Bool := decide (ds.length = (sgn s).length) && (fitAll (sgn s) ds size many && (decide (z ≠ "fill") || leFill ds))
def rowOk (d : PyData) (size many : Int) : Bool := match d with
  | .tuple (.str z :: ds) => match kv_SHAPES.lookup z with
    | some s => rowTail z s ds size many
    | none => false
  | _ => false
theorem kv_look {z s : Str} (h : (z, s) ∈ kv_SHAPES) : kv_SHAPES.lookup z = some s ∧ (∀ x ∈ sgn s, x ∈ sorts5) ∧ (sgn s).length ≤ 3 ∧ s.length = (sgn s).length := by
  simp only [kv_SHAPES, List.mem_cons, List.not_mem_nil, or_false, Prod.mk.injEq] at h
  rcases h with ⟨rfl, rfl⟩ | ⟨rfl, rfl⟩ | ⟨rfl, rfl⟩ | ⟨rfl, rfl⟩ | ⟨rfl, rfl⟩ | ⟨rfl, rfl⟩ | ⟨rfl, rfl⟩ | ⟨rfl, rfl⟩ | ⟨rfl, rfl⟩ | ⟨rfl, rfl⟩ | ⟨rfl, rfl⟩ | ⟨rfl, rfl⟩ <;> exact ⟨by decide +kernel, by decide +kernel, by decide +kernel, by decide +kernel⟩
theorem kv_some {z : Str} (h : z ∈ kv_SHAPES.map (·.1)) : ∃ s, (z, s) ∈ kv_SHAPES := by
  obtain ⟨q, hq, rfl⟩ := List.mem_map.mp h
  exact ⟨q.2, hq⟩
theorem kv_none {z : Str} (h : z ∉ kv_SHAPES.map (·.1)) : kv_SHAPES.lookup z = none := by
  have gen : ∀ l : List (Str × Str), z ∉ l.map (·.1) → l.lookup z = none := by
    intro l
    induction l with
    | nil => intro _; rfl
    | cons q l ih =>
      intro h
      rw [List.map_cons, List.mem_cons, not_or] at h
      obtain ⟨k, v⟩ := q
      rw [List.lookup_cons, ih h.2]
      have : (z == k) = false := by
        rw [beq_eq_false_iff_ne]
        exact h.1
      rw [this]
  exact gen _ h
theorem leFill_of {size many : Int} {ds : List PyData} (h : fitAll (sgn "bec") ds size many = true) (l : ds.length = 3) : ∃ a b c, ds = [.int a, .int b, .int c] := by
  match ds, l with
  | [x, y, w], _ =>
    have e : sgn "bec" = ([Str.ofString "b", Str.ofString "e", Str.ofString "c"] : List Str) := by decide +kernel
    rw [e] at h
    simp only [fitAll, List.zip_cons_cons, List.zip_nil_left, List.all_cons, List.all_nil, Bool.and_true, Bool.and_eq_true] at h
    obtain ⟨h1, h2, h3⟩ := h
    have i : ∀ {s : Str} {d : PyData}, fitS s d size many = true → ∃ n, d = .int n := fun {s d} h => by
      cases d with
      | int n => exact ⟨n, rfl⟩
      | _ => cases h
    obtain ⟨a, rfl⟩ := i h1
    obtain ⟨b, rfl⟩ := i h2
    obtain ⟨c, rfl⟩ := i h3
    exact ⟨a, b, c, rfl⟩
def kStr : PyData → Bool
  | .str _ => true
  | _ => false
theorem kit_str (d : PyData) : kitB (dty d) "str" = some (kStr d) := by cases d <;> (simp only [dty, kStr]; decide +kernel)
theorem signs_len (s : Str) : (signs s).length = (sgn s).length := by rw [signs_sgn, List.length_map]
theorem signs_at {s : Str} {i : Nat} {u : V} (h : (signs s)[i]? = some u) : ∃ t, (sgn s)[i]? = some t ∧ u = .str t := by
  rw [signs_sgn, List.getElem?_map] at h
  cases e : (sgn s)[i]? with
  | none => rw [e] at h; cases h
  | some t => rw [e] at h; cases h; exact ⟨t, rfl, rfl⟩
def sp_isrow (K : PySem.W.Frag) : Sp := fun vs H Q _ => ∃ (v : V) (d : PyData) (size many : Int), vs = [v, .int size, .int many] ∧ Tg K H [] v d ∧ (∀ ds, d = .tuple ds → SeqAt.shaped d = true ∧ ds.length ≤ 1000) ∧ ∀ H', Kp [] H H' → Q (.bl (rowOk d size many)) H'
theorem sc_is_program_row : FnScope ["thing", "size", "many", "word", "things", "sort", "one"] ["thing", "size", "many"] (defScope s_is_program_row) :=
  ⟨rfl, rfl, rfl, by decide +kernel, rfl, by decide +kernel, by decide +kernel⟩
theorem ok_is_program_row {P : Program} {w : World} {K : PySem.W.Frag} {mg : Str → Option Value} {base : Heap} (T : Txt w K mg) :
    FnG P w K mg base 3 T.a_is_program_row T.d_is_program_row ["thing", "size", "many"] (sp_isrow K) := by
  refine okD T.F_is_program_row sc_is_program_row (fun vs H Q E h => ?_) (fun cdv A outer s H vs Q E hr h => ?_)
  · first
      | (obtain ⟨_, rfl, _⟩ := h; rfl)
      | (obtain ⟨_, _, rfl, _⟩ := h; rfl)
      | (obtain ⟨_, _, _, rfl, _⟩ := h; rfl)
      | (obtain ⟨_, _, _, _, rfl, _⟩ := h; rfl)
      | (obtain ⟨_, _, _, _, _, rfl, _⟩ := h; rfl)
      | (obtain ⟨_, _, _, _, _, _, rfl, _⟩ := h; rfl)
      | (obtain ⟨_, _, _, _, _, _, _, rfl, _⟩ := h; rfl)
      | (obtain ⟨_, _, _, _, _, _, _, _, rfl, _⟩ := h; rfl)
      | (obtain ⟨_, _, _, _, _, _, _, _, _, rfl, _⟩ := h; rfl)
      | (obtain ⟨_, _, _, _, _, _, _, _, _, _, rfl, _⟩ := h; rfl)
      | (obtain ⟨_, _, _, _, _, _, _, _, _, _, _, rfl, _⟩ := h; rfl)
      | (obtain ⟨_, _, _, _, _, _, _, _, _, _, _, _, rfl, _⟩ := h; rfl)
      | (obtain ⟨_, _, _, _, _, _, _, _, _, _, _, _, _, rfl, _⟩ := h; rfl)
      | (obtain ⟨_, _, _, _, _, _, _, _, _, _, _, _, _, _, rfl, _⟩ := h; rfl)
      | (obtain ⟨_, _, _, _, _, _, _, _, _, _, _, _, _, _, _, rfl, _⟩ := h; rfl)
      | (obtain ⟨_, _, _, _, _, _, _, _, _, _, _, _, _, _, _, _, rfl, _⟩ := h; rfl)
      | (obtain ⟨_, _, _, _, _, _, _, _, _, _, _, _, _, _, _, _, _, rfl, _⟩ := h; rfl)
      | (obtain ⟨_, _, _, _, _, _, _, _, _, _, _, _, _, _, _, _, _, _, rfl, _⟩ := h; rfl)
      | (obtain ⟨_, _, _, _, _, _, _, _, _, _, _, _, _, _, _, _, _, _, _, rfl, _⟩ := h; rfl)
  · obtain ⟨v, d, size, many, rfl, hd, ll0, k⟩ := h
    have any := Any.tg hd
    refine ⟨_, (pss_cons (ps_if (PW.pt (pw_or (pt_not (pt_val (pe_callB (k_isi (K := K) rfl) (by rfl) T.n_isinstance (by decide +kernel) (pa_cons (pv 0) (pa_cons (pe_bltn (v := .ty "tuple") (by rfl) T.n_tuple (by decide +kernel) rfl) pa_nil))))) (pw_or (pt_cmpR (k_eq (K := K) rfl hr.r.units) (pv 0) (pe_tup pa_nil) (nomark _)) (pw_or (pt_not (pt_val (pe_callB (k_isi (K := K) rfl) (by rfl) T.n_isinstance (by decide +kernel) (pa_cons (pe_ix (k_ix (K := K) rfl) (pv 0) pe_int (fun _ _ => rfl)) (pa_cons (pe_bltn (v := .ty "str") (by rfl) T.n_str (by decide +kernel) rfl) pa_nil))))) (pw_or1 (pt_cmpR (op_notInT T.D_SHAPES) (pe_ix (k_ix (K := K) rfl) (pv 0) pe_int (fun _ _ => rfl)) (pe_glob (v := .ref T.a_SHAPES) rfl T.g_SHAPES rfl) (rfl))))))) (pss_one (ps_ret pe_bl)) pss_nil)
      (pss_cons (ps_asg (pv 0) (k_gstar (K := K) rfl rfl (pgs_cons (pg_name (i := 3) sc_is_program_row.nd rfl (Or.inl rfl)) (pgs_star (pg_name (i := 4) sc_is_program_row.nd rfl (Or.inl rfl)) pgs_nil))))
      (pss_cons (ps_if (pt_cmpR (k_ne (K := K) rfl hr.r.units) (pe_callB (k_len (K := K) rfl) (by rfl) T.n_len (by decide +kernel) (pa_cons (pv 4) pa_nil)) (pe_callB (k_len (K := K) rfl) (by rfl) T.n_len (by decide +kernel) (pa_cons (pe_ix (ix_itemT T.D_SHAPES) (pe_glob (v := .ref T.a_SHAPES) rfl T.g_SHAPES rfl) (pv 3) (fun _ _ => rfl)) pa_nil)) (nomark _)) (pss_one (ps_ret pe_bl)) pss_nil)
      (pss_cons (ps_if (pt_not (pt_val (pe_callB (k_all (K := K) rfl rfl) (by rfl) T.n_all (by decide +kernel) (pa_cons (pe_lc (own := [("sort", 5), ("one", 6)]) (g := (gTup K 2 (gCons (gName 5) (gCons (gName 6) gNil)))) (tt := tYes) rfl sc_is_program_row.nd (k_pzipX (K := K) rfl (by rfl) T.n_zip (pa_cons (pe_ix (ix_itemT T.D_SHAPES) (pe_glob (v := .ref T.a_SHAPES) rfl T.g_SHAPES rfl) (pv 3) (fun _ _ => rfl)) (pa_cons (pv 4) pa_nil))) (blkOk_by (own := [("sort", 5), ("one", 6)]) (N := ["thing", "size", "many", "word", "things", "sort", "one"]) (sc := defScope s_is_program_row) (by decide +kernel)) (fun _ _ _ _ _ => (k_gtup (K := K) 2 rfl rfl (pgs_cons (pg_name (i := 5) sc_is_program_row.nd rfl (Or.inl rfl)) (pgs_cons (pg_name (i := 6) sc_is_program_row.nd rfl (Or.inl rfl)) pgs_nil)))) (fun _ _ _ _ _ => pts_nil) (fun _ _ _ _ _ => (d1 (ok_fits T) (hr.mono (by decide)) (by rfl) T.m_fits T.F_fits.kp T.b_fits passL (pa_cons (pv 5) (pa_cons (pv 6) (pa_cons (pv 1) (pa_cons (pv 2) pa_nil))))))) pa_nil)))) (pss_one (ps_ret pe_bl)) pss_nil)
      (pss_one (ps_ret (pe_or (pe_cmpR (k_ne (K := K) rfl hr.r.units) (pv 3) pe_str (nomark _)) (pe_one (pe_cmpR op_le (pe_ix (k_ix (K := K) rfl) (pv 4) pe_int (fun _ _ => rfl)) (pe_ix (k_ix (K := K) rfl) (pv 4) pe_int (fun _ _ => rfl)) (nomark _)))))))))), ?_⟩
    dsimp only [cxOf, st_1, st_2, st_3, st_4, st_5, st_6, List.length_cons, List.length_nil, List.replicate_succ, List.replicate_zero, Nat.reduceAdd, Nat.reduceSub]
    walk_at "gs"
    refine i_isA any (kit_tup d) ?_
    walk_at "gs"
    refine i_bool2 (fun c => ?_) (fun c => ?_)
    · have e : rowOk d size many = false := by
        cases d with
        | tuple ds => cases c
        | _ => rfl
      walk_at "gs"
      rw [← e]
      exact k H Kp.refl
    · obtain ⟨ds, rfl⟩ : ∃ ds, d = .tuple ds := by
        cases d with
        | tuple ds => exact ⟨ds, rfl⟩
        | _ => cases c
      obtain ⟨a, xs, rfl, hs, ha⟩ : ∃ a xs, v = .ref a ∧ SqT K H a xs ∧ DxAll K H [] xs ds := by
        rcases hd with h | ⟨e, _⟩
        · cases h with
          | tup hs ha => exact ⟨_, _, rfl, hs, ha⟩
        · cases e
      obtain ⟨sd, ll⟩ := ll0 ds rfl
      walk_at "gs"
      refine i_new fun E0 fE0 => ?_
      have kE : Kp [] H (upd H E0 (.tup [])) := Kp.new fE0
      have hE0 : SqT K (upd H E0 (.tup [])) E0 [] := SqT.of upd_same
      obtain ⟨H1, e1⟩ : ∃ H1, H1 = upd H E0 (.tup []) := ⟨_, rfl⟩
      rw [← e1] at kE hE0 ⊢
      have hs1 := kE.seqT hs
      have ha1 := ha.kp kE _ _
      walk_at "gs"
      refine i_eqD (d := .tuple ds) (e := .tuple []) (.tup hs1 (DxAll.dp _ _ ha1)) (.tup hE0 .nil) sd rfl ?_
      rcases ds with _ | ⟨d0, ds⟩
      · rw [show PyData.eqv (.tuple []) (.tuple []) = true from rfl]
        walk_at "gs"
        exact k H1 kE
      rw [show PyData.eqv (.tuple (d0 :: ds)) (.tuple []) = false from rfl]
      obtain ⟨x0, xs, rfl, h0, hb1⟩ : ∃ x0 xs', xs = x0 :: xs' ∧ Dx K H1 [] x0 d0 ∧ DxAll K H1 [] xs' ds := by
        cases ha1 with
        | cons h1 h2 => exact ⟨_, _, rfl, h1, h2⟩
      have lds := ll
      rw [List.length_cons] at lds
      have lxs := dxa_len hb1
      walk_at "gs"
      refine i_isA (Any.dp (h0.dp _ _)) (kit_str d0) ?_
      walk_at "gs"
      refine i_bool2 (fun c0 => ?_) (fun c0 => ?_)
      · have e : rowOk (.tuple (d0 :: ds)) size many = false := by
          cases d0 with
          | str z => cases c0
          | _ => rfl
        walk_at "gs"
        rw [← e]
        exact k H1 kE
      obtain ⟨z, rfl⟩ : ∃ z, d0 = .str z := by
        cases d0 with
        | str z => exact ⟨z, rfl⟩
        | _ => cases c0
      obtain rfl : x0 = .str z := by
        cases h0
        rfl
      walk_at "gs"
      refine ⟨z, rfl, rfl, ?_⟩
      walk_at "gs"
      refine i_dec (fun cz => ?_) (fun cz => ?_)
      · have e : rowOk (.tuple (.str z :: ds)) size many = false := by
          simp only [rowOk]
          rw [kv_none cz]
        walk_at "gs"
        rw [← e]
        exact k H1 kE
      obtain ⟨s, hzs⟩ := kv_some (Decidable.not_not.mp cz)
      obtain ⟨lk, s5, s3, sl⟩ := kv_look hzs
      have er : rowOk (.tuple (.str z :: ds)) size many = rowTail z s ds size many := by
        simp only [rowOk]
        rw [lk]
      rw [er] at k
      walk_at "gs"
      refine i_star (.inl hs1) (by omega) fun L fL => ?_
      have kL : Kp [] H1 (upd H1 L (.lst xs)) := Kp.new fL
      have hL : (upd H1 L (.lst xs)) L = some (.lst xs) := upd_same
      obtain ⟨H2, e2⟩ : ∃ H2, H2 = upd H1 L (.lst xs) := ⟨_, rfl⟩
      show gCons _ _ _ _ (upd H1 L (.lst xs)) _
      rw [← e2] at kL hL ⊢
      have k02 := Kp.trans kE kL
      have ha2 := hb1.kp kL _ _
      walk_at "gs"
      refine ⟨z, s, rfl, rfl, hzs, ?_⟩
      walk_at "gs"
      refine i_lenS (by rw [sl, sizeLine_eq]; omega) ?_
      walk_at "gs"
      refine i_decN (fun cl => ?_) (fun cl => ?_)
      · have e : rowTail z s ds size many = false := by
          have : decide (ds.length = (sgn s).length) = false := decide_eq_false fun q => cl (by rw [lxs, q, sl])
          unfold rowTail
          rw [this]
          rfl
        walk_at "gs"
        rw [← e]
        exact k H2 k02
      have el : ds.length = (sgn s).length := by rw [sl, lxs] at cl; exact_mod_cast cl
      have et : rowTail z s ds size many = (fitAll (sgn s) ds size many && (decide (z ≠ "fill") || leFill ds)) := by
        unfold rowTail
        rw [decide_eq_true el, Bool.true_and]
      rw [et] at k
      walk_at "gs"
      refine ⟨z, s, rfl, rfl, hzs, ?_⟩
      walk_at "gs"
      refine i_eltzX (k1 := .txt) (k2 := .lst) (xs := signs s) (ys := xs) ⟨s, rfl, rfl⟩ ⟨L, rfl, SqL.of hL⟩ (fun D i H' => Kp [] H2 H' ∧ H' D = some (.lst ((((sgn s).zip ds).take i).map fun q => V.bl (fitS q.1 q.2 size many)))) ?_ ?_ ?_ ?_
      · intro D fD
        exact ⟨Kp.new fD, upd_same⟩
      · rintro D i H' fD ⟨kk, _⟩
        exact ⟨⟨s, rfl, rfl⟩, ⟨L, rfl, SqL.of (kk.at_ _ _ hL not_nil)⟩⟩
      · rintro D i u v tp H3 fD hu hv ⟨k3, hD3⟩ ftp
        obtain ⟨t, ht, rfl⟩ := signs_at hu
        obtain ⟨dv, hdv, hx⟩ := dxa_get (ha2.kp k3 _ _) hv
        have ktp : Kp [] H3 (upd H3 tp (.tup [.str t, v])) := Kp.new ftp
        have htp : (upd H3 tp (.tup [.str t, v])) tp = some (.tup [.str t, v]) := upd_same
        obtain ⟨H4, e4⟩ : ∃ H4, H4 = upd H3 tp (.tup [.str t, v]) := ⟨_, rfl⟩
        show gTup K 2 _ _ _ (upd H3 tp (.tup [.str t, v])) _
        rw [← e4] at ktp htp ⊢
        walk_at "gs"
        refine ⟨t, v, dv, size, many, rfl, s5 t (List.mem_of_getElem? ht), Any.dp ((hx.kp ktp _ _).dp _ _), fun H5 k5 => ?_⟩
        walk_at "gs"
        have hi : i < ((sgn s).zip ds).length := by
          have := (List.getElem?_eq_some_iff.mp ht).1
          have := (List.getElem?_eq_some_iff.mp hdv).1
          rw [List.length_zip]
          omega
        have hz3 : ((sgn s).zip ds).length ≤ 3 := by
          rw [List.length_zip]
          omega
        refine ⟨_, (Kp.trans ktp k5).at_ _ _ hD3 not_nil, small_sz (by rw [List.length_map, List.length_take]; omega), Kp.upd (Kp.trans k3 (Kp.trans ktp k5)) fD, ?_⟩
        have hz : ((sgn s).zip ds)[i]? = some (t, dv) := List.getElem?_zip_eq_some.mpr ⟨ht, hdv⟩
        rw [List.take_add_one, hz, List.map_append]
        exact upd_same
      rintro D H3 fD ⟨k3, hD3⟩
      have hbs : H3 D = some (.lst ((((sgn s).zip ds).map fun q => fitS q.1 q.2 size many).map V.bl)) := by
        rw [hD3, signs_len, List.take_of_length_le (by rw [List.length_zip]; omega), List.map_map]
        rfl
      walk_at "gs"
      refine i_all (SqL.of hbs) ?_
      have ef : ((((sgn s).zip ds).map fun q => fitS q.1 q.2 size many).all id) = fitAll (sgn s) ds size many := by
        unfold fitAll
        rw [List.all_map]
        rfl
      rw [ef]
      have k03 := Kp.trans k02 k3
      walk_at "gs"
      refine i_bool2 (fun cf => ?_) (fun cf => ?_)
      · have cf : fitAll (sgn s) ds size many = false := by cases h : fitAll (sgn s) ds size many <;> simp [h] at cf ⊢
        rw [cf, Bool.false_and] at k
        walk_at "gs"
        exact k H3 k03
      have cf : fitAll (sgn s) ds size many = true := by cases h : fitAll (sgn s) ds size many <;> simp [h] at cf ⊢
      rw [cf, Bool.true_and] at k
      walk_at "gs"
      refine i_decN (fun cz2 => ?_) (fun cz2 => ?_)
      · rw [decide_eq_true cz2, Bool.true_or] at k
        exact k H3 k03
      rw [decide_eq_false (fun n => n cz2), Bool.false_or] at k
      subst cz2
      have es : s = Str.ofString "bec" := by
        have := (kv_look (z := Str.ofString "fill") (s := Str.ofString "bec") (by decide +kernel)).1
        rw [lk] at this
        exact Option.some.inj this
      subst es
      obtain ⟨ia, ib, ic, rfl⟩ := leFill_of cf (by rw [el]; decide +kernel)
      obtain ⟨y0, y1, y2, rfl, g0, g1, g2⟩ : ∃ y0 y1 y2, xs = [y0, y1, y2] ∧ y0 = .int ia ∧ y1 = .int ib ∧ y2 = .int ic := by
        cases hb1 with
        | cons h1 hb =>
          cases hb with
          | cons h2 hb =>
            cases hb with
            | cons h3 hb =>
              cases hb
              cases h1
              cases h2
              cases h3
              exact ⟨_, _, _, rfl, rfl, rfl, rfl⟩
      subst g0 g1 g2
      have hL3 := k3.at_ _ _ hL not_nil
      walk_at "gs"
      exact k H3 k03

/-! ### drawn sizes, cells, rows -/
def okN (n : Int) : Prop := -1000000000000000000000000000000000000000000000000000000000000 ≤ n ∧ n ≤ 1000000000000000000000000000000000000000000000000000000000000
/-- a row of a program, its numbers not too great -/
def Row (size many : Int) (d : PyData) : Prop := ∃ (w : Str) (es : List PyData), d = .tuple (.str w :: es) ∧ w ∈ kv_SHAPES.map (·.1) ∧ es.length ≤ 3 ∧ rowOk d size many = true ∧ ∀ e ∈ es, ∃ n, e = .int n ∧ okN n
theorem rowOk_of {w s : Str} {es : List PyData} {size many : Int} (h : (w, s) ∈ kv_SHAPES) (l : es.length = (sgn s).length) (f : fitAll (sgn s) es size many = true) (g : w = "fill" → leFill es = true) : rowOk (.tuple (.str w :: es)) size many = true := by
  simp only [rowOk]
  rw [(kv_look h).1]
  simp only
  unfold rowTail
  rw [decide_eq_true l, f, Bool.true_and, Bool.true_and, Bool.or_eq_true]
  by_cases c : w = "fill"
  · exact .inr (g c)
  · exact .inl (decide_eq_true c)
theorem row_of {w s : Str} {es : List PyData} {size many : Int} (h : (w, s) ∈ kv_SHAPES) (l : es.length = (sgn s).length) (f : fitAll (sgn s) es size many = true) (g : w = "fill" → leFill es = true)
    (o : ∀ e ∈ es, ∃ n, e = .int n ∧ okN n) : Row size many (.tuple (.str w :: es)) :=
  ⟨w, es, rfl, List.mem_map.mpr ⟨_, h, rfl⟩, by have := (kv_look h).2.2.1; omega, rowOk_of h l f g, o⟩
theorem fit_c {n size many : Int} (h : 0 ≤ n ∧ n < size) : fitS "c" (.int n) size many = true := by
  have e1 : ((Str.ofString "c") = (Str.ofString "n")) = False := by rw [eq_iff_iff]; decide +kernel
  unfold fitS limS
  simp only [e1, if_false, if_true]
  exact decide_eq_true h
theorem fit_n {n size many : Int} : fitS "n" (.int n) size many = true := by
  unfold fitS
  simp only [if_true]
theorem fit_r {n size many : Int} (h : 0 ≤ n ∧ n ≤ many) : fitS "r" (.int n) size many = true := by
  have e1 : ((Str.ofString "r") = (Str.ofString "n")) = False := by rw [eq_iff_iff]; decide +kernel
  have e2 : ((Str.ofString "r") = (Str.ofString "c")) = False := by rw [eq_iff_iff]; decide +kernel
  unfold fitS limS
  simp only [e1, e2, if_false, if_true]
  exact decide_eq_true ⟨h.1, by omega⟩
theorem fit_b {s : Str} {n size many : Int} (hs : s = Str.ofString "b" ∨ s = Str.ofString "e") (h : 0 ≤ n ∧ n ≤ size) : fitS s (.int n) size many = true := by
  have e1 : (s = (Str.ofString "n")) = False := by rw [eq_iff_iff]; rcases hs with rfl | rfl <;> decide +kernel
  have e2 : (s = (Str.ofString "c")) = False := by rw [eq_iff_iff]; rcases hs with rfl | rfl <;> decide +kernel
  have e3 : (s = (Str.ofString "r")) = False := by rw [eq_iff_iff]; rcases hs with rfl | rfl <;> decide +kernel
  unfold fitS limS
  simp only [e1, e2, e3, if_false]
  exact decide_eq_true ⟨h.1, by omega⟩
theorem sg_cn : sgn "cn" = ([Str.ofString "c", Str.ofString "n"] : List Str) := by decide +kernel
theorem sg_cc : sgn "cc" = ([Str.ofString "c", Str.ofString "c"] : List Str) := by decide +kernel
theorem sg_bec : sgn "bec" = ([Str.ofString "b", Str.ofString "e", Str.ofString "c"] : List Str) := by decide +kernel
theorem sg_ccr : sgn "ccr" = ([Str.ofString "c", Str.ofString "c", Str.ofString "r"] : List Str) := by decide +kernel
theorem sg_c : sgn "c" = ([Str.ofString "c"] : List Str) := by decide +kernel
theorem sg_r : sgn "r" = ([Str.ofString "r"] : List Str) := by decide +kernel
theorem sg_0 : sgn "" = ([] : List Str) := by decide +kernel
theorem fa0 {size many : Int} : fitAll [] [] size many = true := rfl
theorem fa1 {s : Str} {a : PyData} {ss : List Str} {ds : List PyData} {size many : Int} (h : fitS s a size many = true) (t : fitAll ss ds size many = true) : fitAll (s :: ss) (a :: ds) size many = true := by
  have e : fitAll (s :: ss) (a :: ds) size many = (fitS s a size many && fitAll ss ds size many) := rfl
  rw [e, h, t]
  rfl
def cellOk (c size : Int) : Prop := 0 ≤ c ∧ c < size
theorem cellOk.n {c size : Int} (h : cellOk c size) (z : size ≤ 1000000000000000000) : okN c := ⟨by have := h.1; omega, by have := h.2; omega⟩
theorem ok1 {a : Int} (h : okN a) : ∀ e ∈ [PyData.int a], ∃ n, e = .int n ∧ okN n := fun e he => by
  obtain rfl := List.mem_singleton.mp he
  exact ⟨_, rfl, h⟩
theorem ok2 {a b : Int} (h : okN a) (g : okN b) : ∀ e ∈ [PyData.int a, .int b], ∃ n, e = .int n ∧ okN n := fun e he => by
  rcases List.mem_cons.mp he with rfl | he
  · exact ⟨_, rfl, h⟩
  · exact ok1 g e he
theorem ok3 {a b c : Int} (h : okN a) (g : okN b) (k : okN c) : ∀ e ∈ [PyData.int a, .int b, .int c], ∃ n, e = .int n ∧ okN n := fun e he => by
  rcases List.mem_cons.mp he with rfl | he
  · exact ⟨_, rfl, h⟩
  · exact ok2 g k e he
theorem row_cn {w : Str} {c n size many : Int} (h : (w, Str.ofString "cn") ∈ kv_SHAPES) (nf : w ≠ "fill") (hc : cellOk c size) (hn : okN n) (z : size ≤ 1000000000000000000) : Row size many (.tuple [.str w, .int c, .int n]) :=
  row_of h (by rw [sg_cn]; rfl) (by rw [sg_cn]; exact fa1 (fit_c hc) (fa1 fit_n fa0)) (fun e => absurd e nf) (ok2 (hc.n z) hn)
theorem row_cc {w : Str} {c d size many : Int} (h : (w, Str.ofString "cc") ∈ kv_SHAPES) (nf : w ≠ "fill") (hc : cellOk c size) (hd : cellOk d size) (z : size ≤ 1000000000000000000) : Row size many (.tuple [.str w, .int c, .int d]) :=
  row_of h (by rw [sg_cc]; rfl) (by rw [sg_cc]; exact fa1 (fit_c hc) (fa1 (fit_c hd) fa0)) (fun e => absurd e nf) (ok2 (hc.n z) (hd.n z))
theorem row_c {w : Str} {c size many : Int} (h : (w, Str.ofString "c") ∈ kv_SHAPES) (nf : w ≠ "fill") (hc : cellOk c size) (z : size ≤ 1000000000000000000) : Row size many (.tuple [.str w, .int c]) :=
  row_of h (by rw [sg_c]; rfl) (by rw [sg_c]; exact fa1 (fit_c hc) fa0) (fun e => absurd e nf) (ok1 (hc.n z))
theorem row_r {w : Str} {r size many : Int} (h : (w, Str.ofString "r") ∈ kv_SHAPES) (nf : w ≠ "fill") (hr : 0 ≤ r ∧ r ≤ many) (z : many ≤ 1000) : Row size many (.tuple [.str w, .int r]) :=
  row_of h (by rw [sg_r]; rfl) (by rw [sg_r]; exact fa1 (fit_r hr) fa0) (fun e => absurd e nf) (ok1 ⟨by omega, by omega⟩)
theorem row_0 {w : Str} {size many : Int} (h : (w, Str.ofString "") ∈ kv_SHAPES) (nf : w ≠ "fill") : Row size many (.tuple [.str w]) :=
  row_of h (by rw [sg_0]; rfl) (by rw [sg_0]; exact fa0) (fun e => absurd e nf) (fun _ h => nomatch h)
theorem row_ccr {w : Str} {c d r size many : Int} (h : (w, Str.ofString "ccr") ∈ kv_SHAPES) (nf : w ≠ "fill") (hc : cellOk c size) (hd : cellOk d size) (hr : 0 ≤ r ∧ r ≤ many) (z : size ≤ 1000000000000000000) (z2 : many ≤ 1000) : Row size many (.tuple [.str w, .int c, .int d, .int r]) :=
  row_of h (by rw [sg_ccr]; rfl) (by rw [sg_ccr]; exact fa1 (fit_c hc) (fa1 (fit_c hd) (fa1 (fit_r hr) fa0))) (fun e => absurd e nf) (ok3 (hc.n z) (hd.n z) ⟨by omega, by omega⟩)
theorem row_bec {b e c size many : Int} (hb : 0 ≤ b ∧ b ≤ e) (he : e ≤ size) (hc : cellOk c size) (z : size ≤ 1000000000000000000) : Row size many (.tuple [.str "fill", .int b, .int e, .int c]) :=
  row_of (s := Str.ofString "bec") (by decide +kernel) (by rw [sg_bec]; rfl) (by rw [sg_bec]; exact fa1 (fit_b (.inl rfl) ⟨hb.1, by omega⟩) (fa1 (fit_b (.inr rfl) ⟨by omega, he⟩) (fa1 (fit_c hc) fa0))) (fun _ => decide_eq_true hb.2) (ok3 ⟨by omega, by omega⟩ ⟨by omega, by omega⟩ (hc.n z))
def sp_law_cell : Sp := fun vs H Q _ => ∃ (p : Addr) (n : Int), vs = [.ref p, .int n] ∧ PotAt H p ∧ (1 ≤ n ∧ n ≤ 1000000000000000000) ∧ ∀ c H', cellOk c n → PotAt H' p → Kp [p] H H' → Q (.int c) H'
theorem sc_law_cell : FnScope ["_law_pot_here", "_law_size_here"] ["_law_pot_here", "_law_size_here"] (defScope s_law_cell) :=
  ⟨rfl, rfl, rfl, by decide +kernel, rfl, by decide +kernel, by decide +kernel⟩
theorem ok_law_cell {P : Program} {w : World} {K : PySem.W.Frag} {mg : Str → Option Value} {base : Heap} (T : Txt w K mg) :
    FnG P w K mg base 2 T.a_law_cell T.d_law_cell ["_law_pot_here", "_law_size_here"] sp_law_cell := by
  refine okD T.F_law_cell sc_law_cell (fun vs H Q E h => ?_) (fun cdv A outer s H vs Q E hr h => ?_)
  · first
      | (obtain ⟨_, rfl, _⟩ := h; rfl)
      | (obtain ⟨_, _, rfl, _⟩ := h; rfl)
      | (obtain ⟨_, _, _, rfl, _⟩ := h; rfl)
      | (obtain ⟨_, _, _, _, rfl, _⟩ := h; rfl)
      | (obtain ⟨_, _, _, _, _, rfl, _⟩ := h; rfl)
      | (obtain ⟨_, _, _, _, _, _, rfl, _⟩ := h; rfl)
      | (obtain ⟨_, _, _, _, _, _, _, rfl, _⟩ := h; rfl)
      | (obtain ⟨_, _, _, _, _, _, _, _, rfl, _⟩ := h; rfl)
      | (obtain ⟨_, _, _, _, _, _, _, _, _, rfl, _⟩ := h; rfl)
      | (obtain ⟨_, _, _, _, _, _, _, _, _, _, rfl, _⟩ := h; rfl)
      | (obtain ⟨_, _, _, _, _, _, _, _, _, _, _, rfl, _⟩ := h; rfl)
      | (obtain ⟨_, _, _, _, _, _, _, _, _, _, _, _, rfl, _⟩ := h; rfl)
      | (obtain ⟨_, _, _, _, _, _, _, _, _, _, _, _, _, rfl, _⟩ := h; rfl)
      | (obtain ⟨_, _, _, _, _, _, _, _, _, _, _, _, _, _, rfl, _⟩ := h; rfl)
      | (obtain ⟨_, _, _, _, _, _, _, _, _, _, _, _, _, _, _, rfl, _⟩ := h; rfl)
      | (obtain ⟨_, _, _, _, _, _, _, _, _, _, _, _, _, _, _, _, rfl, _⟩ := h; rfl)
      | (obtain ⟨_, _, _, _, _, _, _, _, _, _, _, _, _, _, _, _, _, rfl, _⟩ := h; rfl)
      | (obtain ⟨_, _, _, _, _, _, _, _, _, _, _, _, _, _, _, _, _, _, rfl, _⟩ := h; rfl)
      | (obtain ⟨_, _, _, _, _, _, _, _, _, _, _, _, _, _, _, _, _, _, _, rfl, _⟩ := h; rfl)
  · obtain ⟨p, n, rfl, hp, hn, k⟩ := h
    refine ⟨_, (pss_one (ps_ret (pe_callB (c_min2 rfl) (by rfl) T.n_min (by decide +kernel) (pa_cons (pe_op op_sub (pv 1) pe_int) (pa_cons (pe_ix (k_ix (K := K) rfl) (pe_lst (pa_cons pe_int (pa_cons pe_int (pa_cons pe_int (pa_cons pe_int (pa_cons (pe_op o_div (pv 1) pe_int) (pa_cons (pe_op op_sub (pv 1) pe_int) pa_nil))))))) (d1 (ok_law_draw T) (hr.mono (by decide)) (by rfl) T.m_law_draw T.F_law_draw.kp T.b_law_draw passL (pa_cons (pv 0) (pa_cons pe_int pa_nil))) (fun _ _ => rfl)) pa_nil))))), ?_⟩
    dsimp only [cxOf, st_1, st_2, st_3, st_4, st_5, st_6, List.length_cons, List.length_nil, List.replicate_succ, List.replicate_zero, Nat.reduceAdd, Nat.reduceSub]
    walk_at "gs"
    refine i_new fun M fM => ?_
    have kM : Kp [] H (upd H M (.lst [V.int 0, V.int 1, V.int 2, V.int 3, V.int (n / 2), V.int (n - 1)])) := Kp.new fM
    have nMp : M ≠ p := Ne.symm (hp.ne fM)
    walk_at "gs"
    refine use_draw (hp.kp kM not_nil) (by decide) (by decide) (fun m H2 m0 m1 hp2 k2 => ?_)
    have hM2 : H2 M = some (.lst [V.int 0, V.int 1, V.int 2, V.int 3, V.int (n / 2), V.int (n - 1)]) := k2.at_ _ _ upd_same (not_one nMp)
    have k02 : Kp [p] H H2 := Kp.trans kM.wide k2
    obtain ⟨y, hat, y0⟩ : ∃ y : Int, atI [V.int 0, V.int 1, V.int 2, V.int 3, V.int (n / 2), V.int (n - 1)] m = some (.int y) ∧ 0 ≤ y := by
      obtain ⟨m', rfl⟩ := Int.eq_ofNat_of_zero_le m0
      have e : m' = 0 ∨ m' = 1 ∨ m' = 2 ∨ m' = 3 ∨ m' = 4 ∨ m' = 5 := by omega
      rcases e with rfl | rfl | rfl | rfl | rfl | rfl
      · exact ⟨_, rfl, by omega⟩
      · exact ⟨_, rfl, by omega⟩
      · exact ⟨_, rfl, by omega⟩
      · exact ⟨_, rfl, by omega⟩
      · exact ⟨_, rfl, by omega⟩
      · exact ⟨_, rfl, by omega⟩
    walk_at "gs"
    exact k _ H2 ⟨by omega, by omega⟩ hp2 k02
def sp_law_size : Sp := fun vs H Q _ => ∃ p : Addr, vs = [.ref p] ∧ PotAt H p ∧ ∀ n H', (1 ≤ n ∧ n ≤ 1000000000000000000) → PotAt H' p → Kp [p] H H' → Q (.int n) H'
theorem sc_law_size : FnScope ["_law_pot_here"] ["_law_pot_here"] (defScope s_law_size) :=
  ⟨rfl, rfl, rfl, by decide +kernel, rfl, by decide +kernel, by decide +kernel⟩
theorem ok_law_size {P : Program} {w : World} {K : PySem.W.Frag} {mg : Str → Option Value} {base : Heap} (T : Txt w K mg) :
    FnG P w K mg base 2 T.a_law_size T.d_law_size ["_law_pot_here"] sp_law_size := by
  refine okD T.F_law_size sc_law_size (fun vs H Q E h => ?_) (fun cdv A outer s H vs Q E hr h => ?_)
  · first
      | (obtain ⟨_, rfl, _⟩ := h; rfl)
      | (obtain ⟨_, _, rfl, _⟩ := h; rfl)
      | (obtain ⟨_, _, _, rfl, _⟩ := h; rfl)
      | (obtain ⟨_, _, _, _, rfl, _⟩ := h; rfl)
      | (obtain ⟨_, _, _, _, _, rfl, _⟩ := h; rfl)
      | (obtain ⟨_, _, _, _, _, _, rfl, _⟩ := h; rfl)
      | (obtain ⟨_, _, _, _, _, _, _, rfl, _⟩ := h; rfl)
      | (obtain ⟨_, _, _, _, _, _, _, _, rfl, _⟩ := h; rfl)
      | (obtain ⟨_, _, _, _, _, _, _, _, _, rfl, _⟩ := h; rfl)
      | (obtain ⟨_, _, _, _, _, _, _, _, _, _, rfl, _⟩ := h; rfl)
      | (obtain ⟨_, _, _, _, _, _, _, _, _, _, _, rfl, _⟩ := h; rfl)
      | (obtain ⟨_, _, _, _, _, _, _, _, _, _, _, _, rfl, _⟩ := h; rfl)
      | (obtain ⟨_, _, _, _, _, _, _, _, _, _, _, _, _, rfl, _⟩ := h; rfl)
      | (obtain ⟨_, _, _, _, _, _, _, _, _, _, _, _, _, _, rfl, _⟩ := h; rfl)
      | (obtain ⟨_, _, _, _, _, _, _, _, _, _, _, _, _, _, _, rfl, _⟩ := h; rfl)
      | (obtain ⟨_, _, _, _, _, _, _, _, _, _, _, _, _, _, _, _, rfl, _⟩ := h; rfl)
      | (obtain ⟨_, _, _, _, _, _, _, _, _, _, _, _, _, _, _, _, _, rfl, _⟩ := h; rfl)
      | (obtain ⟨_, _, _, _, _, _, _, _, _, _, _, _, _, _, _, _, _, _, rfl, _⟩ := h; rfl)
      | (obtain ⟨_, _, _, _, _, _, _, _, _, _, _, _, _, _, _, _, _, _, _, rfl, _⟩ := h; rfl)
  · obtain ⟨p, rfl, hp, k⟩ := h
    refine ⟨_, (pss_one (ps_ret (pe_ix (k_ix (K := K) rfl) (pe_lst (pa_cons (pe_op (k_add (K := K) rfl) pe_int (d1 (ok_law_draw T) (hr.mono (by decide)) (by rfl) T.m_law_draw T.F_law_draw.kp T.b_law_draw passL (pa_cons (pv 0) (pa_cons pe_int pa_nil)))) (pa_cons (pe_op (k_add (K := K) rfl) pe_int (d1 (ok_law_draw T) (hr.mono (by decide)) (by rfl) T.m_law_draw T.F_law_draw.kp T.b_law_draw passL (pa_cons (pv 0) (pa_cons pe_int pa_nil)))) (pa_cons (pe_op op_sub (pe_op o_pow pe_int pe_int) (d1 (ok_law_draw T) (hr.mono (by decide)) (by rfl) T.m_law_draw T.F_law_draw.kp T.b_law_draw passL (pa_cons (pv 0) (pa_cons pe_int pa_nil)))) pa_nil)))) (d1 (ok_law_draw T) (hr.mono (by decide)) (by rfl) T.m_law_draw T.F_law_draw.kp T.b_law_draw passL (pa_cons (pv 0) (pa_cons pe_int pa_nil))) (fun _ _ => rfl)))), ?_⟩
    dsimp only [cxOf, st_1, st_2, st_3, st_4, st_5, st_6, List.length_cons, List.length_nil, List.replicate_succ, List.replicate_zero, Nat.reduceAdd, Nat.reduceSub]
    walk_at "gs"
    refine use_draw hp (by decide) (by decide) (fun a H1 a0 a1 hp1 k1 => ?_)
    walk_at "gs"
    refine use_draw hp1 (by decide) (by decide) (fun b H2 b0 b1 hp2 k2 => ?_)
    walk_at "gs"
    refine use_draw hp2 (by decide) (by decide) (fun c H3 c0 c1 hp3 k3 => ?_)
    walk_at "gs"
    refine i_new fun M fM => ?_
    walk_at "gs"
    have kM : Kp [] H3 (upd H3 M (.lst [V.int (1 + a), V.int (1 + b), V.int (1000000000000000000 - c)])) := Kp.new fM
    have nMp : M ≠ p := Ne.symm (hp3.ne fM)
    refine use_draw (hp3.kp kM not_nil) (by decide) (by decide) (fun m H4 m0 m1 hp4 k4 => ?_)
    have hM4 : H4 M = some (.lst [V.int (1 + a), V.int (1 + b), V.int (1000000000000000000 - c)]) := k4.at_ _ _ upd_same (not_one nMp)
    have k04 : Kp [p] H H4 := Kp.trans k1 (Kp.trans k2 (Kp.trans k3 (Kp.trans kM.wide k4)))
    obtain ⟨y, hat, y0⟩ : ∃ y : Int, atI [V.int (1 + a), V.int (1 + b), V.int (1000000000000000000 - c)] m = some (.int y) ∧ 1 ≤ y ∧ y ≤ 1000000000000000000 := by
      obtain ⟨m', rfl⟩ := Int.eq_ofNat_of_zero_le m0
      have e : m' = 0 ∨ m' = 1 ∨ m' = 2 := by omega
      rcases e with rfl | rfl | rfl
      · exact ⟨_, rfl, by omega⟩
      · exact ⟨_, rfl, by omega⟩
      · exact ⟨_, rfl, by omega⟩
    walk_at "gs"
    exact k _ H4 y0 hp4 k04

/-! ### a drawn row, drawn rows -/
theorem srt2 {ms : List Int} {a b : Int} (p : ms.Perm [a, b]) (s : ms.Pairwise (· ≤ ·)) : ∃ x y, ms = [x, y] ∧ x ≤ y ∧ ((x = a ∧ y = b) ∨ (x = b ∧ y = a)) := by
  obtain ⟨x, y, rfl⟩ : ∃ x y, ms = [x, y] := by
    have := p.length_eq
    match ms, this with
    | [x, y], _ => exact ⟨x, y, rfl⟩
  rw [List.pairwise_cons] at s
  refine ⟨x, y, rfl, s.1 y (List.mem_singleton.mpr rfl), ?_⟩
  have hx : x = a ∨ x = b := by simpa using p.subset (List.mem_cons_self)
  rcases hx with rfl | rfl
  · have e : y = b := by simpa using (List.perm_cons x).mp p
    exact .inl ⟨rfl, e⟩
  · have e : y = a := by simpa using (List.perm_cons x).mp (p.trans (List.Perm.swap x a []))
    exact .inr ⟨rfl, e⟩
/-- where a row goes on to a row that it names, that is behind -/
def Fwd (i : Int) (d : PyData) : Prop := ∀ w es, d = .tuple (.str w :: es) → w = "less" ∨ w = "same" ∨ w = "fork" → ∃ r, es.getLast? = some (.int r) ∧ i < r
theorem fwd_no {i : Int} {w : Str} {es : List PyData} (h : ¬ (w = "less" ∨ w = "same" ∨ w = "fork")) : Fwd i (.tuple (.str w :: es)) := fun w' es' e z => by
  cases e
  exact absurd z h
theorem fwd_r {i r : Int} {w : Str} {es : List PyData} (h : es.getLast? = some (.int r)) (g : i < r) : Fwd i (.tuple (.str w :: es)) := fun w' es' e z => by
  cases e
  exact ⟨r, h, g⟩
def sp_law_row (K : PySem.W.Frag) : Sp := fun vs H Q _ => ∃ (p : Addr) (size ix many : Int) (fw : Bool), vs = [.ref p, .int size, .int ix, .int many, .bl fw] ∧ PotAt H p ∧ (1 ≤ size ∧ size ≤ 1000000000000000000) ∧ (0 ≤ ix ∧ ix < many) ∧ many ≤ 1000 ∧
  ∀ t d H', Dx K H' [p] (.ref t) d → Row size many d → (fw = true → Fwd ix d) → PotAt H' p → Kp [p] H H' → Q (.ref t) H'
theorem sc_law_row : FnScope ["_law_pot_here", "_law_size_here", "_law_at", "_law_many", "_law_forward", "_law_c", "_law_d", "_law_r", "_law_way", "_law_ends"] ["_law_pot_here", "_law_size_here", "_law_at", "_law_many", "_law_forward"] (defScope s_law_row) :=
  ⟨rfl, rfl, rfl, by decide +kernel, rfl, by decide +kernel, by decide +kernel⟩
theorem ok_law_row {P : Program} {w : World} {K : PySem.W.Frag} {mg : Str → Option Value} {base : Heap} (T : Txt w K mg) :
    FnG P w K mg base 3 T.a_law_row T.d_law_row ["_law_pot_here", "_law_size_here", "_law_at", "_law_many", "_law_forward"] (sp_law_row K) := by
  refine okD T.F_law_row sc_law_row (fun vs H Q E h => ?_) (fun cdv A outer s H vs Q E hr h => ?_)
  · first
      | (obtain ⟨_, rfl, _⟩ := h; rfl)
      | (obtain ⟨_, _, rfl, _⟩ := h; rfl)
      | (obtain ⟨_, _, _, rfl, _⟩ := h; rfl)
      | (obtain ⟨_, _, _, _, rfl, _⟩ := h; rfl)
      | (obtain ⟨_, _, _, _, _, rfl, _⟩ := h; rfl)
      | (obtain ⟨_, _, _, _, _, _, rfl, _⟩ := h; rfl)
      | (obtain ⟨_, _, _, _, _, _, _, rfl, _⟩ := h; rfl)
      | (obtain ⟨_, _, _, _, _, _, _, _, rfl, _⟩ := h; rfl)
      | (obtain ⟨_, _, _, _, _, _, _, _, _, rfl, _⟩ := h; rfl)
      | (obtain ⟨_, _, _, _, _, _, _, _, _, _, rfl, _⟩ := h; rfl)
      | (obtain ⟨_, _, _, _, _, _, _, _, _, _, _, rfl, _⟩ := h; rfl)
      | (obtain ⟨_, _, _, _, _, _, _, _, _, _, _, _, rfl, _⟩ := h; rfl)
      | (obtain ⟨_, _, _, _, _, _, _, _, _, _, _, _, _, rfl, _⟩ := h; rfl)
      | (obtain ⟨_, _, _, _, _, _, _, _, _, _, _, _, _, _, rfl, _⟩ := h; rfl)
      | (obtain ⟨_, _, _, _, _, _, _, _, _, _, _, _, _, _, _, rfl, _⟩ := h; rfl)
      | (obtain ⟨_, _, _, _, _, _, _, _, _, _, _, _, _, _, _, _, rfl, _⟩ := h; rfl)
      | (obtain ⟨_, _, _, _, _, _, _, _, _, _, _, _, _, _, _, _, _, rfl, _⟩ := h; rfl)
      | (obtain ⟨_, _, _, _, _, _, _, _, _, _, _, _, _, _, _, _, _, _, rfl, _⟩ := h; rfl)
      | (obtain ⟨_, _, _, _, _, _, _, _, _, _, _, _, _, _, _, _, _, _, _, rfl, _⟩ := h; rfl)
  · obtain ⟨p, size, ix, many, fw, rfl, hp, hz, hix, hm, k⟩ := h
    have fin : ∀ (H5 : Hp) (w : Str) (ns : List Int), PotAt H5 p → Kp [p] H H5 → Row size many (.tuple (.str w :: ns.map .int)) → (fw = true → Fwd ix (.tuple (.str w :: ns.map .int))) → New H5 fun t => Q (.ref t) (upd H5 t (.tup (.str w :: ns.map V.int))) := by
      intro H5 w ns hp5 k5 row fwd
      refine i_new fun t ft => ?_
      have kt : Kp [] H5 (upd H5 t (.tup (.str w :: ns.map V.int))) := Kp.new ft
      have all : ∀ (H' : Hp) (l : List Int), DxAll K H' [p] (l.map V.int) (l.map PyData.int) := fun H' l => by
        induction l with
        | nil => exact .nil
        | cons n l ih => exact .cons (.int n) ih
      exact k t _ _ (.tup (SqT.of upd_same) (.cons (.str w) (all _ ns))) row fwd (hp5.kp kt not_nil) (Kp.trans k5 kt.wide)
    refine ⟨_, (pss_cons (ps_par (i := 5) (j := 6) (by rfl) sc_law_row.nd rfl rfl (by decide) rfl rfl (pa_cons (d1 (ok_law_cell T) (hr.mono (by decide)) (by rfl) T.m_law_cell T.F_law_cell.kp T.b_law_cell passL (pa_cons (pv 0) (pa_cons (pv 1) pa_nil))) (pa_cons (d1 (ok_law_cell T) (hr.mono (by decide)) (by rfl) T.m_law_cell T.F_law_cell.kp T.b_law_cell passL (pa_cons (pv 0) (pa_cons (pv 1) pa_nil))) pa_nil)) (by rfl))
      (pss_cons (ps_set (i := 7) sc_law_row.nd rfl (Or.inl rfl) (pe_ifExp (pt_val (pv 4)) (pe_op (k_add (K := K) rfl) (pe_op (k_add (K := K) rfl) (pv 2) pe_int) (d1 (ok_law_draw T) (hr.mono (by decide)) (by rfl) T.m_law_draw T.F_law_draw.kp T.b_law_draw passL (pa_cons (pv 0) (pa_cons (pe_op op_sub (pv 3) (pv 2)) pa_nil)))) (d1 (ok_law_draw T) (hr.mono (by decide)) (by rfl) T.m_law_draw T.F_law_draw.kp T.b_law_draw passL (pa_cons (pv 0) (pa_cons (pe_op (k_add (K := K) rfl) (pv 3) pe_int) pa_nil)))))
      (pss_cons (ps_set (i := 8) sc_law_row.nd rfl (Or.inl rfl) (d1 (ok_law_draw T) (hr.mono (by decide)) (by rfl) T.m_law_draw T.F_law_draw.kp T.b_law_draw passL (pa_cons (pv 0) (pa_cons pe_int pa_nil))))
      (pss_cons (ps_if (pt_cmpR op_lt (pv 8) pe_int (nomark _)) (pss_one (ps_ret (pe_tup (pa_cons pe_str (pa_cons (pv 5) (pa_cons (pe_ix (k_ix (K := K) rfl) (pe_lst (pa_cons (d1 (ok_law_draw T) (hr.mono (by decide)) (by rfl) T.m_law_draw T.F_law_draw.kp T.b_law_draw passL (pa_cons (pv 0) (pa_cons pe_int pa_nil))) (pa_cons (pe_op op_sub (d1 (ok_law_draw T) (hr.mono (by decide)) (by rfl) T.m_law_draw T.F_law_draw.kp T.b_law_draw passL (pa_cons (pv 0) (pa_cons pe_int pa_nil))) pe_int) (pa_cons (pv 5) (pa_cons (pe_op op_sub (pv 1) pe_int) pa_nil))))) (d1 (ok_law_draw T) (hr.mono (by decide)) (by rfl) T.m_law_draw T.F_law_draw.kp T.b_law_draw passL (pa_cons (pv 0) (pa_cons pe_int pa_nil))) (fun _ _ => rfl)) pa_nil)))))) pss_nil)
      (pss_cons (ps_if (pt_cmpR op_lt (pv 8) pe_int (nomark _)) (pss_one (ps_ret (pe_tup (pa_cons (pe_ix (k_ix (K := K) rfl) (pe_lst (pa_cons pe_str (pa_cons pe_str (pa_cons pe_str pa_nil)))) (pe_op op_sub (pv 8) pe_int) (fun _ _ => rfl)) (pa_cons (pv 5) (pa_cons (pv 6) pa_nil)))))) pss_nil)
      (pss_cons (ps_if (pt_cmpR (k_eq (K := K) rfl hr.r.units) (pv 8) pe_int (nomark _)) (pss_one (ps_ret (pe_tup (pa_cons pe_str (pa_cons (pv 5) (pa_cons (pv 6) pa_nil)))))) pss_nil)
      (pss_cons (ps_if (pt_cmpR (k_eq (K := K) rfl hr.r.units) (pv 8) pe_int (nomark _)) (pss_cons (ps_set (i := 9) sc_law_row.nd rfl (Or.inl rfl) (pe_callB (k_sorted (K := K) rfl) (by rfl) T.n_sorted (by decide +kernel) (pa_cons (pe_lst (pa_cons (d1 (ok_law_cell T) (hr.mono (by decide)) (by rfl) T.m_law_cell T.F_law_cell.kp T.b_law_cell passL (pa_cons (pv 0) (pa_cons (pv 1) pa_nil))) (pa_cons (pe_ix (k_ix (K := K) rfl) (pe_lst (pa_cons (pv 6) (pa_cons (pv 1) pa_nil))) (d1 (ok_law_draw T) (hr.mono (by decide)) (by rfl) T.m_law_draw T.F_law_draw.kp T.b_law_draw passL (pa_cons (pv 0) (pa_cons pe_int pa_nil))) (fun _ _ => rfl)) pa_nil))) pa_nil)))
      (pss_one (ps_ret (pe_tup (pa_cons pe_str (pa_cons (pe_ix (k_ix (K := K) rfl) (pv 9) pe_int (fun _ _ => rfl)) (pa_cons (pe_ix (k_ix (K := K) rfl) (pv 9) pe_int (fun _ _ => rfl)) (pa_cons (pv 5) pa_nil)))))))) pss_nil)
      (pss_cons (ps_if (pt_cmpR op_lt (pv 8) pe_int (nomark _)) (pss_one (ps_ret (pe_tup (pa_cons (pe_ix (k_ix (K := K) rfl) (pe_lst (pa_cons pe_str (pa_cons pe_str pa_nil))) (pe_op op_sub (pv 8) pe_int) (fun _ _ => rfl)) (pa_cons (pv 5) (pa_cons (pv 6) (pa_cons (pv 7) pa_nil))))))) pss_nil)
      (pss_cons (ps_if (pt_cmpR op_lt (pv 8) pe_int (nomark _)) (pss_one (ps_ret (pe_tup (pa_cons pe_str (pa_cons (pv 5) pa_nil))))) pss_nil)
      (pss_cons (ps_if (pt_cmpR op_lt (pv 8) pe_int (nomark _)) (pss_one (ps_ret (pe_tup (pa_cons pe_str (pa_cons (pv 7) pa_nil))))) pss_nil)
      (pss_one (ps_ret (pe_ix (k_ix (K := K) rfl) (pe_lst (pa_cons (pe_tup (pa_cons pe_str pa_nil)) (pa_cons (pe_tup (pa_cons pe_str pa_nil)) pa_nil))) (d1 (ok_law_draw T) (hr.mono (by decide)) (by rfl) T.m_law_draw T.F_law_draw.kp T.b_law_draw passL (pa_cons (pv 0) (pa_cons pe_int pa_nil))) (fun _ _ => rfl)))))))))))))), ?_⟩
    dsimp only [cxOf, st_1, st_2, st_3, st_4, st_5, st_6, List.length_cons, List.length_nil, List.replicate_succ, List.replicate_zero, Nat.reduceAdd, Nat.reduceSub]
    walk_at "gs"
    refine ⟨p, size, rfl, hp, hz, fun c H1 hc hp1 k1 => ?_⟩
    walk_at "gs"
    refine ⟨p, size, rfl, hp1, hz, fun d H2 hd hp2 k2 => ?_⟩
    walk_at "gs"
    refine i_bool2 (fun ef => ?yes) (fun ef => ?no)
    case' yes =>
      walk_at "gs"
      refine use_draw hp2 (by omega) (by omega) (fun r0 H3 z0 z1 hp3 k3 => ?_)
      obtain ⟨r, er, hr, fwd⟩ : ∃ r, ix + 1 + r0 = r ∧ (0 ≤ r ∧ r ≤ many) ∧ (fw = true → ix < r) := ⟨_, rfl, by omega, fun _ => by omega⟩
      walk_at "gs"
      rw [er]
    case' no =>
      walk_at "gs"
      refine use_draw hp2 (by omega) (by omega) (fun r H3 z0 z1 hp3 k3 => ?_)
      obtain ⟨hr, fwd⟩ : (0 ≤ r ∧ r ≤ many) ∧ (fw = true → ix < r) := ⟨by omega, fun e => by rw [ef] at e; cases e⟩
    all_goals
      walk_at "gs"
      refine use_draw hp3 (by decide) (by decide) (fun way H4 y0 y1 hp4 k4 => ?_)
      have k04 : Kp [p] H H4 := Kp.trans k1 (Kp.trans k2 (Kp.trans k3 k4))
      walk_at "gs"
      refine i_dec (fun c1 => ?_) (fun c1 => ?_)
      · walk_at "gs"
        refine use_draw hp4 (by decide) (by decide) (fun a H5 a0 a1 hp5 k5 => ?_)
        walk_at "gs"
        refine use_draw hp5 (by decide) (by decide) (fun b H6 b0 b1 hp6 k6 => ?_)
        walk_at "gs"
        refine i_new fun M fM => ?_
        have kM : Kp [] H6 (upd H6 M (.lst [V.int a, V.int (b - 100), V.int c, V.int (size - 1)])) := Kp.new fM
        have nMp : M ≠ p := Ne.symm (hp6.ne fM)
        walk_at "gs"
        refine use_draw (hp6.kp kM not_nil) (by decide) (by decide) (fun m H7 m0 m1 hp7 k7 => ?_)
        have hM7 : H7 M = some (.lst [V.int a, V.int (b - 100), V.int c, V.int (size - 1)]) := k7.at_ _ _ upd_same (not_one nMp)
        obtain ⟨y, hat, hy⟩ : ∃ y : Int, atI [V.int a, V.int (b - 100), V.int c, V.int (size - 1)] m = some (.int y) ∧ okN y := by
          obtain ⟨m', rfl⟩ := Int.eq_ofNat_of_zero_le m0
          have hc0 := hc.1
          have hc1 := hc.2
          have e : m' = 0 ∨ m' = 1 ∨ m' = 2 ∨ m' = 3 := by omega
          rcases e with rfl | rfl | rfl | rfl
          · exact ⟨_, rfl, by unfold okN; omega⟩
          · exact ⟨_, rfl, by unfold okN; omega⟩
          · exact ⟨_, rfl, by unfold okN; omega⟩
          · exact ⟨_, rfl, by unfold okN; omega⟩
        walk_at "gs"
        exact fin H7 "put" [c, y] hp7 (Kp.trans k04 (Kp.trans k5 (Kp.trans k6 (Kp.trans kM.wide k7)))) (row_cn (by decide +kernel) (by decide +kernel) hc hy hz.2) (fun _ => fwd_no (by decide +kernel))
      walk_at "gs"
      refine i_dec (fun c2 => ?_) (fun c2 => ?_)
      · walk_at "gs"
        refine i_new fun M fM => ?_
        have kM : Kp [] H4 (upd H4 M (.lst [V.str (Str.ofString "move"), V.str (Str.ofString "add"), V.str (Str.ofString "from")])) := Kp.new fM
        obtain ⟨w, hat, hw⟩ : ∃ w : Str, atI [V.str (Str.ofString "move"), V.str (Str.ofString "add"), V.str (Str.ofString "from")] (way - 3) = some (.str w) ∧ w ∈ (["move", "add", "from"] : List Str) := by
          have e : way - 3 = 0 ∨ way - 3 = 1 ∨ way - 3 = 2 := by omega
          rcases e with e | e | e <;> rw [e]
          · exact ⟨_, rfl, by decide +kernel⟩
          · exact ⟨_, rfl, by decide +kernel⟩
          · exact ⟨_, rfl, by decide +kernel⟩
        walk_at "gs"
        refine fin _ w [c, d] (hp4.kp kM not_nil) (Kp.trans k04 kM.wide) ?_ (fun _ => ?_)
        · simp only [List.mem_cons, List.not_mem_nil, or_false] at hw
          rcases hw with rfl | rfl | rfl <;> exact row_cc (by decide +kernel) (by decide +kernel) hc hd hz.2
        · simp only [List.mem_cons, List.not_mem_nil, or_false] at hw
          rcases hw with rfl | rfl | rfl <;> exact fwd_no (by decide +kernel)
      walk_at "gs"
      refine i_dec (fun c3 => ?_) (fun c3 => ?_)
      · walk_at "gs"
        exact fin H4 "into" [c, d] hp4 k04 (row_cc (by decide +kernel) (by decide +kernel) hc hd hz.2) (fun _ => fwd_no (by decide +kernel))
      walk_at "gs"
      refine i_dec (fun c4 => ?_) (fun c4 => ?_)
      · walk_at "gs"
        refine ⟨p, size, rfl, hp4, hz, fun a H5 ha hp5 k5 => ?_⟩
        walk_at "gs"
        refine i_new fun M fM => ?_
        have kM : Kp [] H5 (upd H5 M (.lst [V.int d, V.int size])) := Kp.new fM
        have nMp : M ≠ p := Ne.symm (hp5.ne fM)
        walk_at "gs"
        refine use_draw (hp5.kp kM not_nil) (by decide) (by decide) (fun m H6 m0 m1 hp6 k6 => ?_)
        have hM6 : H6 M = some (.lst [V.int d, V.int size]) := k6.at_ _ _ upd_same (not_one nMp)
        obtain ⟨y, hat, hy⟩ : ∃ y : Int, atI [V.int d, V.int size] m = some (.int y) ∧ (0 ≤ y ∧ y ≤ size) := by
          obtain ⟨m', rfl⟩ := Int.eq_ofNat_of_zero_le m0
          have hd0 := hd.1
          have hd1 := hd.2
          have e : m' = 0 ∨ m' = 1 := by omega
          rcases e with rfl | rfl
          · exact ⟨_, rfl, by omega⟩
          · exact ⟨_, rfl, by omega⟩
        walk_at "gs"
        refine i_new fun l1 fl1 => ?_
        walk_at "gs"
        refine i_sorted (ns := [a, y]) (SqL.of upd_same) fun ns l2 pm pw fl2 => ?_
        obtain ⟨b, e, rfl, be, hbe⟩ := srt2 pm pw
        have ha0 := ha.1
        have ha1 := ha.2
        obtain ⟨H7, e7⟩ : ∃ H7, H7 = upd (upd H6 l1 (.lst [V.int a, V.int y])) l2 (.lst ([b, e].map V.int)) := ⟨_, rfl⟩
        have k67 : Kp [] H6 H7 := by
          rw [e7]
          exact Kp.trans (Kp.new fl1) (Kp.new fl2)
        have hl2 : H7 l2 = some (.lst [V.int b, V.int e]) := by
          rw [e7]
          exact upd_same
        rw [← e7]
        have at0 : atI [V.int b, V.int e] 0 = some (.int b) := atI_nat (j := 0) rfl
        have at1 : atI [V.int b, V.int e] 1 = some (.int e) := atI_nat (j := 1) rfl
        walk_at "gs"
        exact fin H7 "fill" [b, e, c] (hp6.kp k67 not_nil) (Kp.trans k04 (Kp.trans k5 (Kp.trans kM.wide (Kp.trans k6 k67.wide)))) (row_bec ⟨by omega, be⟩ (by omega) hc hz.2) (fun _ => fwd_no (by decide +kernel))
      walk_at "gs"
      refine i_dec (fun c5 => ?_) (fun c5 => ?_)
      · walk_at "gs"
        refine i_new fun M fM => ?_
        have kM : Kp [] H4 (upd H4 M (.lst [V.str (Str.ofString "less"), V.str (Str.ofString "same")])) := Kp.new fM
        obtain ⟨w, hat, hw⟩ : ∃ w : Str, atI [V.str (Str.ofString "less"), V.str (Str.ofString "same")] (way - 8) = some (.str w) ∧ w ∈ (["less", "same"] : List Str) := by
          have e : way - 8 = 0 ∨ way - 8 = 1 := by omega
          rcases e with e | e <;> rw [e]
          · exact ⟨_, rfl, by decide +kernel⟩
          · exact ⟨_, rfl, by decide +kernel⟩
        walk_at "gs"
        refine fin _ w [c, d, r] (hp4.kp kM not_nil) (Kp.trans k04 kM.wide) ?_ (fun e => fwd_r rfl (fwd e))
        simp only [List.mem_cons, List.not_mem_nil, or_false] at hw
        rcases hw with rfl | rfl <;> exact row_ccr (by decide +kernel) (by decide +kernel) hc hd hr hz.2 hm
      walk_at "gs"
      refine i_dec (fun c6 => ?_) (fun c6 => ?_)
      · walk_at "gs"
        exact fin H4 "tell" [c] hp4 k04 (row_c (by decide +kernel) (by decide +kernel) hc hz.2) (fun _ => fwd_no (by decide +kernel))
      walk_at "gs"
      refine i_dec (fun c7 => ?_) (fun c7 => ?_)
      · walk_at "gs"
        exact fin H4 "fork" [r] hp4 k04 (row_r (by decide +kernel) (by decide +kernel) hr hm) (fun e => fwd_r rfl (fwd e))
      walk_at "gs"
      refine i_new fun t1 f1 => ?_
      walk_at "gs"
      refine i_new fun t2 f2 => ?_
      walk_at "gs"
      refine i_new fun M fM => ?_
      obtain ⟨H5, e5⟩ : ∃ H5, H5 = upd (upd (upd H4 t1 (.tup [V.str (Str.ofString "fail")])) t2 (.tup [V.str (Str.ofString "done")])) M (.lst [V.ref t1, V.ref t2]) := ⟨_, rfl⟩
      have k45 : Kp [] H4 H5 := by
        rw [e5]
        walk_at "g_kp"
      have g1 : SqT K H5 t1 [V.str (Str.ofString "fail")] := by
        rw [e5]
        walk_at "g_st"
      have g2 : SqT K H5 t2 [V.str (Str.ofString "done")] := by
        rw [e5]
        walk_at "g_st"
      have hM5 : H5 M = some (.lst [V.ref t1, V.ref t2]) := by
        rw [e5]
        exact upd_same
      have nMp : M ≠ p := Ne.symm (hp4.ne (show Fr H4 M by walk_at "g_fr"))
      rw [← e5]
      walk_at "gs"
      refine use_draw (hp4.kp k45 not_nil) (by decide) (by decide) (fun m H6 m0 m1 hp6 k6 => ?_)
      have hM6 : H6 M = some (.lst [V.ref t1, V.ref t2]) := k6.at_ _ _ hM5 (not_one nMp)
      obtain ⟨t, w, hat, gw, hw⟩ : ∃ (t : Addr) (w : Str), atI [V.ref t1, V.ref t2] m = some (.ref t) ∧ SqT K H5 t [V.str w] ∧ w ∈ (["fail", "done"] : List Str) := by
        obtain ⟨m', rfl⟩ := Int.eq_ofNat_of_zero_le m0
        have e : m' = 0 ∨ m' = 1 := by omega
        rcases e with rfl | rfl
        · exact ⟨_, _, rfl, g1, by decide +kernel⟩
        · exact ⟨_, _, rfl, g2, by decide +kernel⟩
      walk_at "gs"
      refine k t (.tuple [.str w]) H6 (.tup (k6.seqT gw) (.cons (.str w) .nil)) ?_ (fun _ => ?_) hp6 (Kp.trans k04 (Kp.trans k45.wide k6))
      · simp only [List.mem_cons, List.not_mem_nil, or_false] at hw
        rcases hw with rfl | rfl <;> exact row_0 (by decide +kernel) (by decide +kernel)
      · simp only [List.mem_cons, List.not_mem_nil, or_false] at hw
        rcases hw with rfl | rfl <;> exact fwd_no (by decide +kernel)

/-! ### drawn rows -/
def isFork : PyData → Bool
  | .tuple (.str w :: _) => decide (w = "fork")
  | _ => false
theorem Row.imm {size many : Int} {d : PyData} (r : Row size many d) : imm d = true := by
  obtain ⟨w, es, rfl, _, _, _, o⟩ := r
  have all : ∀ l : List PyData, (∀ e ∈ l, ∃ n, e = .int n ∧ okN n) → imms l = true := by
    intro l
    induction l with
    | nil => intro _; rfl
    | cons e l ih =>
      intro h
      obtain ⟨n, rfl, _⟩ := h e List.mem_cons_self
      simp only [imms, G.imm, Bool.true_and]
      exact ih fun x hx => h x (List.mem_cons_of_mem _ hx)
  simp only [G.imm, imms, Bool.true_and]
  exact all es o
theorem rows_imm {size many : Int} : ∀ {ds : List PyData}, (∀ d ∈ ds, Row size many d) → imms ds = true
  | [], _ => rfl
  | d :: ds, h => by
    simp only [imms]
    rw [(h d List.mem_cons_self).imm, rows_imm fun x hx => h x (List.mem_cons_of_mem _ hx)]
    rfl
theorem Row.at {K : PySem.W.Frag} {H : Hp} {x : V} {size many : Int} {d : PyData} (r : Row size many d) (h : Dp K H x d) : ∃ t w xs es, x = .ref t ∧ d = .tuple (.str w :: es) ∧ SqT K H t (.str w :: xs) := by
  obtain ⟨w, es, rfl, _⟩ := r
  cases h with
  | tup hs ha =>
    cases ha with
    | cons h1 h2 =>
      cases h1
      exact ⟨_, w, _, es, rfl, rfl, hs⟩
theorem filter_stp {α : Type} {f : α → Bool} {l : List α} {i : Nat} {x : α} (h : l[i]? = some x) : (l.take (i + 1)).filter f = (l.take i).filter f ++ (if f x = true then [x] else []) := by
  rw [List.take_add_one, h, List.filter_append]
  congr 1
  show [x].filter f = _
  rw [List.filter_cons]
  rfl
def Forked (fw : Bool) (ds : List PyData) : Prop := fw = true → ∀ (j : Nat) d, ds[j]? = some d → Fwd j d
def sp_law_rows (K : PySem.W.Frag) : Sp := fun vs H Q _ => ∃ (p : Addr) (size many forks : Int) (fw : Bool), vs = [.ref p, .int size, .int many, .bl fw, .int forks] ∧ PotAt H p ∧ (1 ≤ size ∧ size ≤ 1000000000000000000) ∧ (0 ≤ many ∧ many ≤ 1000) ∧
  ∀ F ds H', Fr H F → PotAt H' p → Kp [p] H H' → LD K H' F ds → (ds.length : Int) = many → (∀ d ∈ ds, Row size many d) → Forked fw ds → (0 ≤ forks → ((ds.filter isFork).length : Int) ≤ forks) → Q (.ref F) H'
theorem sc_law_rows : FnScope ["_law_pot_here", "_law_size_here", "_law_many", "_law_forward", "_law_forks", "_law_found", "_law_at", "_law_row_here", "_law_one"] ["_law_pot_here", "_law_size_here", "_law_many", "_law_forward", "_law_forks"] (defScope s_law_rows) :=
  ⟨rfl, rfl, rfl, by decide +kernel, rfl, by decide +kernel, by decide +kernel⟩
theorem ok_law_rows {P : Program} {w : World} {K : PySem.W.Frag} {mg : Str → Option Value} {base : Heap} (T : Txt w K mg) :
    FnG P w K mg base 4 T.a_law_rows T.d_law_rows ["_law_pot_here", "_law_size_here", "_law_many", "_law_forward", "_law_forks"] (sp_law_rows K) := by
  refine okD T.F_law_rows sc_law_rows (fun vs H Q E h => ?_) (fun cdv A outer s H vs Q E hr h => ?_)
  · first
      | (obtain ⟨_, rfl, _⟩ := h; rfl)
      | (obtain ⟨_, _, rfl, _⟩ := h; rfl)
      | (obtain ⟨_, _, _, rfl, _⟩ := h; rfl)
      | (obtain ⟨_, _, _, _, rfl, _⟩ := h; rfl)
      | (obtain ⟨_, _, _, _, _, rfl, _⟩ := h; rfl)
      | (obtain ⟨_, _, _, _, _, _, rfl, _⟩ := h; rfl)
      | (obtain ⟨_, _, _, _, _, _, _, rfl, _⟩ := h; rfl)
      | (obtain ⟨_, _, _, _, _, _, _, _, rfl, _⟩ := h; rfl)
      | (obtain ⟨_, _, _, _, _, _, _, _, _, rfl, _⟩ := h; rfl)
      | (obtain ⟨_, _, _, _, _, _, _, _, _, _, rfl, _⟩ := h; rfl)
      | (obtain ⟨_, _, _, _, _, _, _, _, _, _, _, rfl, _⟩ := h; rfl)
      | (obtain ⟨_, _, _, _, _, _, _, _, _, _, _, _, rfl, _⟩ := h; rfl)
      | (obtain ⟨_, _, _, _, _, _, _, _, _, _, _, _, _, rfl, _⟩ := h; rfl)
      | (obtain ⟨_, _, _, _, _, _, _, _, _, _, _, _, _, _, rfl, _⟩ := h; rfl)
      | (obtain ⟨_, _, _, _, _, _, _, _, _, _, _, _, _, _, _, rfl, _⟩ := h; rfl)
      | (obtain ⟨_, _, _, _, _, _, _, _, _, _, _, _, _, _, _, _, rfl, _⟩ := h; rfl)
      | (obtain ⟨_, _, _, _, _, _, _, _, _, _, _, _, _, _, _, _, _, rfl, _⟩ := h; rfl)
      | (obtain ⟨_, _, _, _, _, _, _, _, _, _, _, _, _, _, _, _, _, _, rfl, _⟩ := h; rfl)
      | (obtain ⟨_, _, _, _, _, _, _, _, _, _, _, _, _, _, _, _, _, _, _, rfl, _⟩ := h; rfl)
  · obtain ⟨p, size, many, forks, fw, rfl, hp, hz, hm, k⟩ := h
    have cl_Program := T.cl_Program
    have na_Program_own_rows := T.na_Program_own_rows
    have na_Program_own_size := T.na_Program_own_size
    refine ⟨_, (pss_cons (ps_set (i := 5) sc_law_rows.nd rfl (Or.inl rfl) (pe_lst pa_nil))
      (pss_cons (ps_for (passes_of rfl) rfl (pi_range1 (by rfl) T.n_range (pa_cons (pv 2) pa_nil)) (pg_name (i := 6) sc_law_rows.nd rfl (Or.inl rfl))
      (pss_cons (ps_set (i := 7) sc_law_rows.nd rfl (Or.inl rfl) (d1 (ok_law_row T) (hr.mono (by decide)) (by rfl) T.m_law_row T.F_law_row.kp T.b_law_row passL (pa_cons (pv 0) (pa_cons (pv 1) (pa_cons (pv 6) (pa_cons (pv 2) (pa_cons (pv 3) pa_nil)))))))
      (pss_cons (ps_if (PW.pt (pw_and (pt_cmpR (k_eq (K := K) rfl hr.r.units) (pe_ix (k_ix (K := K) rfl) (pv 7) pe_int (fun _ _ => rfl)) pe_str (nomark _)) (pw_and1 (pt_cmpR op_ge (pe_callB (k_len (K := K) rfl) (by rfl) T.n_len (by decide +kernel) (pa_cons (pe_lc (own := [("_law_one", 8)]) (g := (gName 8)) rfl sc_law_rows.nd (k_plist (K := K) rfl (pv 5)) (blkOk_by (own := [("_law_one", 8)]) (N := ["_law_pot_here", "_law_size_here", "_law_many", "_law_forward", "_law_forks", "_law_found", "_law_at", "_law_row_here", "_law_one"]) (sc := defScope s_law_rows) (by decide +kernel)) (fun _ _ _ _ _ => (pg_name (i := 8) sc_law_rows.nd rfl (Or.inl rfl))) (fun _ _ _ _ _ => (pts_one (pt_cmpR (k_eq (K := K) rfl hr.r.units) (pe_ix (k_ix (K := K) rfl) (pv 8) pe_int (fun _ _ => rfl)) pe_str (nomark _)))) (fun _ _ _ _ _ => (pv 8))) pa_nil)) (pv 4) (nomark _))))) (pss_one (ps_set (i := 7) sc_law_rows.nd rfl (Or.inl rfl) (pe_tup (pa_cons pe_str (pa_cons pe_int pa_nil))))) pss_nil)
      (pss_one (ps_expr (pe_bm PySem.F.plainAttrs_list PySem.F.slot_list_append PySem.F.type_list_append mt_append (pv 5) (pa_cons (pv 7) pa_nil)))))))
      (pss_one (ps_ret (pv 5))))), ?_⟩
    dsimp only [cxOf, st_1, st_2, st_3, st_4, st_5, st_6, List.length_cons, List.length_nil, List.replicate_succ, List.replicate_zero, Nat.reduceAdd, Nat.reduceSub]
    walk_at "gs"
    refine i_new fun F fF => ?_
    have kF : Kp [] H (upd H F (.lst [])) := Kp.new fF
    have nFp : F ≠ p := Ne.symm (hp.ne fF)
    have hpF := hp.kp kF not_nil
    walk_at "gs"
    refine i_turns (by omega) (by omega) (fun i σ H' => ∃ (o6 o7 o8 : Option V) (ds : List PyData), σ = [some (.ref p), some (.int size), some (.int many), some (.bl fw), some (.int forks), some (.ref F), o6, o7, o8] ∧ PotAt H' p ∧ Kp [p] H H' ∧ LD K H' F ds ∧ ds.length = i ∧ (∀ d ∈ ds, Row size many d) ∧ Forked fw ds ∧ (0 ≤ forks → ((ds.filter isFork).length : Int) ≤ forks)) ?_ ?_ ?_
    · exact ⟨_, _, _, [], rfl, hpF, kF.wide, ⟨[], upd_same, .nil⟩, rfl, fun _ h => (nomatch h), fun _ j d h => by simp at h, fun h => by simpa using h⟩
    · rintro i σ H1 hi ⟨o6, o7, o8, ds, rfl, hp1, k1, ld, len, rw, fwd, fk⟩
      walk_at "gs"
      refine ⟨p, size, i, many, fw, rfl, hp1, hz, ⟨by omega, by omega⟩, hm.2, fun t d H2 dt row fd hp2 k2 => ?_⟩
      have dtp : Dp K H2 (.ref t) d := dt.dp _ _
      obtain ⟨t', w, xs, es, e, ed, ht⟩ := row.at dtp
      cases e
      have ld2 := ld.kp k2 (rows_imm rw) (not_one nFp)
      obtain ⟨us, hF2, hus⟩ := id ld2
      have lus := dpa_len hus
      have k02 := Kp.trans k1 k2
      have fin : ∀ (H3 : Hp) (t3 : Addr) (d3 : PyData), Kp [] H2 H3 → Dp K H3 (.ref t3) d3 → Row size many d3 → (fw = true → Fwd i d3) → (isFork d3 = true → ((ds.filter isFork).length : Int) < forks) →
          ∃ us', H3 F = some (.lst us') ∧ us' = us ∧ us'.length < sizeLine ∧ ∃ ds', PotAt (upd H3 F (.lst (us' ++ [.ref t3]))) p ∧ Kp [p] H (upd H3 F (.lst (us' ++ [.ref t3]))) ∧ LD K (upd H3 F (.lst (us' ++ [.ref t3]))) F ds' ∧ ds'.length = i + 1 ∧ (∀ d ∈ ds', Row size many d) ∧ Forked fw ds' ∧ (0 ≤ forks → ((ds'.filter isFork).length : Int) ≤ forks) := by
        intro H3 t3 d3 k3 hd3 row3 fwd3 fk3
        have hF3 := k3.at_ _ _ hF2 not_nil
        have kk : Kp [p] H (upd H3 F (.lst (us ++ [.ref t3]))) := Kp.upd (Kp.trans k02 k3.wide) fF
        have kw : Kp [F] H3 (upd H3 F (.lst (us ++ [.ref t3]))) := kp_set hF3 (fun z => z)
        refine ⟨us, hF3, rfl, small_sz (by omega), ds ++ [d3], (hp2.kp k3 not_nil).kp kw (not_one (Ne.symm nFp)), kk, ⟨_, upd_same, dpa_app (dpa_imm (Kp.trans k3.wide kw) _ _ (rows_imm rw) hus) (.cons (dp_imm kw _ _ row3.imm hd3) .nil)⟩, by rw [List.length_append, len]; rfl, fun x hx => ?_, fun e j x hx => ?_, fun h0 => ?_⟩
        · rcases List.mem_append.mp hx with hx | hx
          · exact rw x hx
          · rw [List.mem_singleton.mp hx]
            exact row3
        · by_cases c : j < ds.length
          · rw [List.getElem?_append_left c] at hx
            exact fwd e j x hx
          · have c2 : j = ds.length := by
              have := (List.getElem?_eq_some_iff.mp hx).1
              rw [List.length_append, List.length_singleton] at this
              omega
            rw [c2, List.getElem?_append_right (Nat.le_refl _), Nat.sub_self] at hx
            cases hx
            rw [c2, len]
            exact fwd3 e
        · rw [List.filter_append, List.length_append]
          have := fk h0
          cases g : isFork d3 with
          | false =>
            rw [List.filter_cons, g]
            simpa using this
          | true =>
            have := fk3 g
            rw [List.filter_cons, g]
            simp only [if_true, List.filter_nil, List.length_singleton]
            omega
      have at0 : atI (V.str w :: xs) 0 = some (.str w) := at_zero
      walk_at "gs"
      refine i_dec (fun cw => ?_) (fun cw => ?_)
      · walk_at "gs"
        refine i_elts (SqL.of hF2) (fun D j H' => Kp [] H2 H' ∧ ∃ ys, H' D = some (.lst ys) ∧ ys.length = ((ds.take j).filter isFork).length) ?_ ?_ ?_ ?_
        · intro D fD
          exact ⟨Kp.new fD, [], upd_same, rfl⟩
        · rintro D j H' fD _ ⟨kk, _⟩
          exact SqL.of (kk.at_ _ _ hF2 not_nil)
        · rintro D j x H3 fD hx ⟨k3, ys, hD3, ly⟩
          obtain ⟨dx, hdx, hxx⟩ := dpa_getV (dpa_imm k3 _ _ (rows_imm rw) hus) hx
          have mem := rw dx (List.mem_of_getElem? hdx)
          obtain ⟨tx, wx, xsx, esx, rfl, rfl, htx⟩ := mem.at hxx
          have atx : atI (V.str wx :: xsx) 0 = some (.str wx) := at_zero
          have hj : j < ds.length := (List.getElem?_eq_some_iff.mp hdx).1
          have ll : ((ds.take j).filter isFork).length ≤ 1000 := Nat.le_trans (List.length_filter_le _ _) (by rw [List.length_take]; omega)
          walk_at "gs"
          refine i_bool2 (fun cx => ?_) (fun cx => ?_)
          · walk_at "gs"
            refine ⟨ys, hD3, small_sz (by omega), Kp.upd k3 fD, _, upd_same, ?_⟩
            rw [filter_stp hdx, List.length_append, List.length_append, ly]
            have : isFork (.tuple (.str wx :: esx)) = true := cx
            rw [this]
            rfl
          · refine ⟨k3, ys, hD3, ?_⟩
            rw [filter_stp hdx, List.length_append, ly]
            have : isFork (.tuple (.str wx :: esx)) = false := cx
            rw [this]
            rfl
        rintro D H3 fD ⟨k3, ys, hD3, ly⟩
        rw [List.take_of_length_le (by omega)] at ly
        have ll : (ds.filter isFork).length ≤ 1000 := Nat.le_trans (List.length_filter_le _ _) (by omega)
        have hF3 := k3.at_ _ _ hF2 not_nil
        walk_at "gs"
        refine i_dec (fun cf => ?_) (fun cf => ?_)
        · walk_at "gs"
          refine i_new fun t3 f3 => ?_
          have k34 : Kp [] H3 (upd H3 t3 (.tup [V.str (Str.ofString "tell"), V.int 0])) := Kp.new f3
          obtain ⟨us', hF4, eu, zu, ds', r1, r2, r3, r4, r5, r6, r7⟩ := fin _ t3 (.tuple [.str "tell", .int 0]) (Kp.trans k3 k34) (.tup (SqT.of upd_same) (.cons (.str _) (.cons (.int _) .nil))) (row_c (by decide +kernel) (by decide +kernel) ⟨by omega, by omega⟩ hz.2) (fun _ => fwd_no (by decide +kernel)) (fun e => absurd e (by decide +kernel))
          walk_at "gs"
          exact ⟨_, _, _, ds', rfl, r1, r2, r3, r4, r5, r6, r7⟩
        · have kd3 : Dp K H3 (.ref t) d := dp_imm k3 _ _ row.imm dtp
          obtain ⟨us', hF4, eu, zu, ds', r1, r2, r3, r4, r5, r6, r7⟩ := fin _ t d k3 kd3 row fd (fun _ => by omega)
          walk_at "gs"
          exact ⟨_, _, _, ds', rfl, r1, r2, r3, r4, r5, r6, r7⟩
      · obtain ⟨us', hF4, eu, zu, ds', r1, r2, r3, r4, r5, r6, r7⟩ := fin _ t d Kp.refl dtp row fd (fun e => absurd (by rw [ed] at e; exact of_decide_eq_true e) cw)
        walk_at "gs"
        exact ⟨_, _, _, ds', rfl, r1, r2, r3, r4, r5, r6, r7⟩
    · rintro σ H1 ⟨o6, o7, o8, ds, rfl, hp1, k1, ld, len, rw, fwd, fk⟩
      walk_at "gs"
      exact k F ds H1 fF hp1 k1 ld (by omega) rw fwd fk

/-! ### repr of data, or of an empty dict -/
section
open PyProof.Rows
def rReprU (K : PySem.W.Frag) : List V → Hp → VK → Prop := fun xs H Q => rRepr K xs H Q ∨ ∃ a, xs = [.ref a] ∧ H a = some (.dK []) ∧ Q (.str (PyData.dict []).shown) H
theorem k_reprU {X : Cx} {K : PySem.W.Frag} (h : X.K = K) (hg : X.A.guards = some []) (hu : X.A.units + 64 < cLine) : CallR X (.builtin "repr") (rReprU K) := by
  intro pins s σ H xs us Q I r q
  rcases q with q | ⟨a, rfl, ha, q⟩
  · exact k_repr h hg hu pins s σ H xs us Q I r q
  · obtain ⟨u, rfl, rx⟩ := vals1 r
    cases rx
    obtain ⟨_, lo, vs, rel, o, es, ep, ho, hc, hd, _, hp, _⟩ := dk_of I.hok ha
    cases rel
    have e0 : es.toList = [] := by
      cases hq : es.toList with
      | nil => rfl
      | cons x y =>
        rw [hq] at hp
        cases hp
    have rd : Reads s.heap (.ref a) (.dict []) (a :: [] ++ []) := by
      refine .dict ho hc.1 hd ?_ ?_
      · rw [e0]
        exact .nil
      · rw [e0]
        exact .nil
    refine repr_of_reads' rd rfl (fun _ hm => ?_) hg ?_ (fun _ _ e => e) (fun h' u tk hk => ?_) (by decide +kernel)
    · simp only [List.append_nil, List.mem_singleton] at hm
      rw [← hm] at lo
      simp at lo
    · have : (PyData.dict []).depth ≤ 1 := by simp only [PyData.depth, PyData.depthKv]; omega
      omega
    · exact ⟨.str _, H, I.kept hk, ⟨_, rfl⟩, q⟩
end

/-! ### repr of data that may hold empty dicts anywhere -/
section
open PySem.Calls PyProof.Rows
mutual
inductive De (K : PySem.W.Frag) (H : Hp) : V → PyData → Prop
  | non : De K H .non .none
  | bl (b : Bool) : De K H (.bl b) (.bool b)
  | int (i : Int) : De K H (.int i) (.int i)
  | str (x : Str) : De K H (.str x) (.str x)
  | lst {a : Addr} {xs : List V} {ds : List PyData} : SqL K H a xs → DeAll K H xs ds → De K H (.ref a) (.list ds)
  | tup {a : Addr} {xs : List V} {ds : List PyData} : SqT K H a xs → DeAll K H xs ds → De K H (.ref a) (.tuple ds)
  | emp {a : Addr} : H a = some (.dK []) → De K H (.ref a) (.dict [])
inductive DeAll (K : PySem.W.Frag) (H : Hp) : List V → List PyData → Prop
  | nil : DeAll K H [] []
  | cons {v : V} {vs : List V} {d : PyData} {ds : List PyData} : De K H v d → DeAll K H vs ds → DeAll K H (v :: vs) (d :: ds)
end
mutual
theorem Dp.de {K : PySem.W.Frag} {H : Hp} : ∀ (d : PyData) (v : V), Dp K H v d → De K H v d
  | .none, _, h => by cases h; exact .non
  | .bool b, _, h => by cases h; exact .bl b
  | .int i, _, h => by cases h; exact .int i
  | .str x, _, h => by cases h; exact .str x
  | .list ds, _, h => by
    cases h with
    | lst hs ha => exact .lst hs (DpAll.de ds _ ha)
  | .tuple ds, _, h => by
    cases h with
    | tup hs ha => exact .tup hs (DpAll.de ds _ ha)
  | .dict _, _, h => by cases h
theorem DpAll.de {K : PySem.W.Frag} {H : Hp} : ∀ (ds : List PyData) (vs : List V), DpAll K H vs ds → DeAll K H vs ds
  | [], _, h => by cases h; exact .nil
  | d :: ds, _, h => by
    cases h with
    | cons h1 h2 => exact .cons (Dp.de d _ h1) (DpAll.de ds _ h2)
end
mutual
def cwE : PyData → Nat
  | .none => 4
  | .bool _ => 5
  | .int _ => 1930
  | .str x => 10 * x.length + 4
  | .list xs => cwsE xs + 2
  | .tuple xs => cwsE xs + 2
  | .dict _ => 2
def cwsE : List PyData → Nat
  | [] => 0
  | x :: xs => cwE x + 2 + cwsE xs
end
mutual
/-- as shw, but empty dicts may stand in it -/
def shwE : PyData → Bool
  | .none => true
  | .bool _ => true
  | .int i => decide (i.natAbs.log2 < 1920)
  | .str x => x.cps.toList.all fun c => decide (c < 16 ^ 8)
  | .list xs => shwsE xs
  | .tuple xs => shwsE xs
  | .dict [] => true
  | .dict _ => false
def shwsE : List PyData → Bool
  | [] => true
  | x :: xs => shwE x && shwsE xs
end
mutual
theorem shown_lenE : ∀ d : PyData, shwE d = true → d.shown.length ≤ cwE d
  | .none, _ => by simp only [PyData.shown, cwE]; decide +kernel
  | .bool b, _ => by cases b <;> (simp only [PyData.shown, cwE]; decide +kernel)
  | .int i, h => by
    simp only [shwE, decide_eq_true_eq] at h
    simp only [PyData.shown, cwE]
    have q := int_text_length_le (a := i) (k := 1920) (by decide) h
    rw [PySem.ofString_length]
    omega
  | .str x, h => by
    simp only [shwE, List.all_eq_true, decide_eq_true_eq] at h
    simp only [PyData.shown, cwE]
    have q := StrLaws.reprText_len x h
    omega
  | .list xs, h => by
    simp only [shwE] at h
    simp only [PyData.shown, cwE]
    exact Nat.le_trans (list_text _) (Nat.add_le_add_right (shown_lensE xs h) 2)
  | .tuple xs, h => by
    simp only [shwE] at h
    simp only [PyData.shown, cwE]
    exact Nat.le_trans (fmt_text _) (Nat.add_le_add_right (shown_lensE xs h) 2)
  | .dict [], _ => by simp only [PyData.shown, cwE]; decide +kernel
  | .dict (_ :: _), h => by simp only [shwE] at h; cases h
theorem shown_lensE : ∀ ds : List PyData, shwsE ds = true → piled (PyData.shownAll ds) ≤ cwsE ds
  | [], _ => Nat.zero_le _
  | d :: ds, h => by
    simp only [shwsE, Bool.and_eq_true] at h
    simp only [PyData.shownAll, cwsE, piled_cons]
    have q1 := shown_lenE d h.1
    have q2 := shown_lensE ds h.2
    omega
end
mutual
theorem De.rk {X : Cx} {pins : List (Addr × Obj)} {σ : L2.St} {H : Hp} {s : Shared} (I : Inv X pins σ H s) : ∀ (d : PyData) (v : V) (u : Value), De X.K H v d → RelV v u → shwE d = true → d.shown.length ≤ sizeLine →
    ∃ as bs, Reads s.heap u d as ∧ ReadAtMost s.heap d.depth bs ∧ ReprK X.prog X.w bs s.heap d.depth u d.shown
  | .none, _, _, h, r, _, _ => by
    cases h
    cases r
    exact ⟨_, [], Reads.none, (fun _ h => nomatch h), by simp only [PyData.shown]; exact .of_is ReprIs.none _ _ _⟩
  | .bool b, _, _, h, r, _, _ => by
    cases h
    cases r
    exact ⟨_, [], Reads.bool b, (fun _ h => nomatch h), by simp only [PyData.shown]; exact .of_is (ReprIs.bool b) _ _ _⟩
  | .int i, _, _, h, r, hs, _ => by
    cases h
    obtain ⟨t, rfl⟩ := r
    exact ⟨_, [], Reads.int i t, (fun _ h => nomatch h), by simp only [PyData.shown]; exact .of_is (ReprIs.int t (by simpa only [shwE, decide_eq_true_eq] using hs)) _ _ _⟩
  | .str x, _, _, h, r, _, hz => by
    cases h
    obtain ⟨t, rfl⟩ := r
    exact ⟨_, [], Reads.str x t, (fun _ h => nomatch h), by simp only [PyData.shown]; exact .of_is (ReprIs.str x t (by simpa only [PyData.shown] using hz)) _ _ _⟩
  | .list ds, _, _, h, r, hs, hz => by
    cases h with
    | lst hq ha =>
      cases r
      rename_i a xs
      obtain ⟨its, rv, ⟨o, n, ho, hc, _, hd⟩, _⟩ := I.list hq
      have hz' : (listText (PyData.shownAll ds)).length ≤ sizeLine := by simpa only [PyData.shown] using hz
      obtain ⟨as, bs, hr, hb, hk⟩ := De.rkAll I ds _ its ha rv (by simpa only [shwE] using hs) (fun t ht => Nat.le_trans (listText_mem_le ht) hz')
      have rr : Reads s.heap (.ref a) (.list ds) _ := Reads.list ho hc hd hr
      have hna : a ∉ bs := not_mem_of_deeper rr (by simp only [PyData.depth]; omega) hb
      refine ⟨_, a :: bs, rr, ReadAtMost.cons rr (by simp only [PyData.depth]; omega) hb, ?_⟩
      simp only [PyData.depth, PyData.shown]
      cases its with
      | nil =>
        cases hr
        simp only [PyData.shownAll, listText_nil]
        exact ReprK.listEmpty ho hc hd
      | cons x l => exact ReprK.list ho hc hd hna (by simpa using hk.length_eq) (fun i y e => hk.item i y (by simpa using e))
  | .tuple ds, _, _, h, r, hs, hz => by
    cases h with
    | tup hq ha =>
      cases r
      rename_i a xs
      obtain ⟨its, rv, ⟨o, ho, hc, n, hd⟩, _⟩ := I.tuple hq
      have hz' : (tupleText (PyData.shownAll ds)).length ≤ sizeLine := by simpa only [PyData.shown] using hz
      obtain ⟨as, bs, hr, hb, hk⟩ := De.rkAll I ds _ its ha rv (by simpa only [shwE] using hs) (fun t ht => Nat.le_trans (tupleText_mem_le ht) hz')
      have rr : Reads s.heap (.ref a) (.tuple ds) _ := Reads.tuple ho hc hd hr
      have hna : a ∉ bs := not_mem_of_deeper rr (by simp only [PyData.depth]; omega) hb
      refine ⟨_, a :: bs, rr, ReadAtMost.cons rr (by simp only [PyData.depth]; omega) hb, ?_⟩
      simp only [PyData.depth, PyData.shown]
      exact ReprK.tuple ho hc hd hna hk
  | .dict [], _, _, h, r, _, _ => by
    cases h with
    | emp ha =>
      cases r
      rename_i a
      obtain ⟨_, lo, vs, rel, o, es, ep, ho, hc, hd, _, hp, _⟩ := dk_of I.hok ha
      cases rel
      have e0 : es.toList = [] := by
        cases hq : es.toList with
        | nil => rfl
        | cons x y =>
          rw [hq] at hp
          cases hp
      have rr : Reads s.heap (.ref a) (.dict []) (a :: [] ++ []) := by
        refine .dict ho hc.1 hd ?_ ?_
        · rw [e0]
          exact .nil
        · rw [e0]
          exact .nil
      refine ⟨_, [a], rr, ReadAtMost.cons rr (n := 0) (Nat.zero_le _) (fun _ h => nomatch h), ?_⟩
      have lo : (a == sysModules) = false := by simpa using lo
      have k := ReprK.dict (prog := X.prog) (w := X.w) (as := []) (d := 0) (ps := []) ho hc.1 hd lo (fun h => nomatch h) (by rw [e0]; exact .nil)
      simp only [PyData.depth, PyData.depthKv, PyData.shown, PyData.shownKv]
      exact k
  | .dict (_ :: _), _, _, h, _, _, _ => by cases h
theorem De.rkAll {X : Cx} {pins : List (Addr × Obj)} {σ : L2.St} {H : Hp} {s : Shared} (I : Inv X pins σ H s) : ∀ (ds : List PyData) (vs : List V) (us : List Value), DeAll X.K H vs ds → Vals vs us → shwsE ds = true → (∀ t ∈ PyData.shownAll ds, t.length ≤ sizeLine) →
    ∃ as bs, ReadsAll s.heap us ds as ∧ ReadAtMost s.heap (PyData.depthAll ds) bs ∧ ReprAllK X.prog X.w bs s.heap (PyData.depthAll ds) us (PyData.shownAll ds)
  | [], _, _, h, r, _, _ => by
    cases h
    cases r
    exact ⟨_, [], ReadsAll.nil, (fun _ h => nomatch h), by simp only [PyData.shownAll]; exact .nil⟩
  | d :: ds, _, _, h, r, hs, hz => by
    cases h with
    | cons h1 h2 =>
      cases r with
      | cons r1 r2 =>
        simp only [shwsE, Bool.and_eq_true] at hs
        obtain ⟨as1, b1, q1, hb1, k1⟩ := De.rk I d _ _ h1 r1 hs.1 (hz _ (by simp only [PyData.shownAll]; exact List.mem_cons_self ..))
        obtain ⟨as2, b2, q2, hb2, k2⟩ := De.rkAll I ds _ _ h2 r2 hs.2 (fun t ht => hz t (by simp only [PyData.shownAll]; exact List.mem_cons_of_mem _ ht))
        refine ⟨_, b1 ++ b2, ReadsAll.cons q1 q2, ?_, ?_⟩
        · simp only [PyData.depthAll]
          exact (hb1.mono (Nat.le_max_left _ _)).append (hb2.mono (Nat.le_max_right _ _))
        · simp only [PyData.depthAll, PyData.shownAll]
          exact .cons ((k1.more fun b hb => List.mem_append_left _ hb).level_le (Nat.le_max_left _ _)) (k2.more_le (fun b hb => List.mem_append_right _ hb) (Nat.le_max_right _ _))
end
def rReprE (K : PySem.W.Frag) : List V → Hp → VK → Prop := fun xs H Q => ∃ x d, xs = [x] ∧ De K H x d ∧ shwE d = true ∧ d.depth ≤ 60 ∧ cwE d ≤ sizeLine ∧ Q (.str d.shown) H
theorem i_reprE {K : PySem.W.Frag} {H : Hp} {Q : VK} {x : V} {d : PyData} (hd : De K H x d) (hs : shwE d = true) (hdp : d.depth ≤ 60) (hz : cwE d ≤ sizeLine) (h : Q (.str d.shown) H) : rReprE K [x] H Q := ⟨x, d, rfl, hd, hs, hdp, hz, h⟩
theorem k_reprE {X : Cx} {K : PySem.W.Frag} (h : X.K = K) (hg : X.A.guards = some []) (hu : X.A.units + 64 < cLine) : CallR X (.builtin "repr") (rReprE K) := by
  subst h
  intro pins s σ H xs us Q I r q
  obtain ⟨x, d, rfl, hd, hs, hdp, hz, q⟩ := q
  obtain ⟨u, rfl, rx⟩ := vals1 r
  have hz2 := Nat.le_trans (shown_lenE d hs) hz
  have leaf : Dp X.K H x d → shw d = true → cw d ≤ sizeLine → wpAny (model X.prog X.w) X.A (call (.builtin "repr") [u]) (EP X pins σ Q) X.xe s := fun a b c => k_repr rfl hg hu pins s σ H [x] [u] Q I r ⟨x, d, rfl, a, b, hdp, c, q⟩
  cases hd with
  | non => exact leaf .non rfl hz
  | bl b => exact leaf (.bl b) rfl hz
  | int i => exact leaf (.int i) hs hz
  | str y => exact leaf (.str y) hs hz
  | lst hq ha =>
    cases rx
    rename_i a xs ds
    obtain ⟨its, rv, ⟨o, n, ho, hc, _, hd⟩, _⟩ := I.list hq
    have hz' : (listText (PyData.shownAll ds)).length ≤ sizeLine := by simpa only [PyData.shown] using hz2
    obtain ⟨as, bs, hr, hb, hk⟩ := De.rkAll I ds _ its ha rv (by simpa only [shwE] using hs) (fun t ht => Nat.le_trans (listText_mem_le ht) hz')
    have rr : Reads s.heap (.ref a) (.list ds) _ := Reads.list ho hc hd hr
    have hna : a ∉ bs := not_mem_of_deeper rr (by simp only [PyData.depth]; omega) hb
    simp only [PyData.depth] at hdp
    simp only [PyData.shown] at q
    refine call_repr_slot (T := "list") (idr := "list.__repr__") (by omega) ⟨_, ho, hc⟩ PySem.F.slot_list_repr.toG ?_
    cases its with
    | nil =>
      cases hr
      simp only [PyData.shownAll, listText_nil] at q
      exact call_list_repr_empty ⟨o, ho, hc⟩ ho hd ⟨_, _, rfl, .str _, H, I.tok _, ⟨_, rfl⟩, q⟩
    | cons x l =>
      exact call_list_reprK ho hc hd hna (by simpa using hk.length_eq) (fun i y e => hk.item i y (by simpa using e)) hg (fun b _ => Clear.nil b) (by show X.A.units + 1 + _ < cLine; omega) (fun _ _ e => e) (fun h' u tk hk => ⟨_, _, rfl, .str _, H, I.kept hk, ⟨_, rfl⟩, q⟩) hz'
  | tup hq ha =>
    cases rx
    rename_i a xs ds
    obtain ⟨its, rv, ⟨o, ho, hc, n, hd⟩, _⟩ := I.tuple hq
    have hz' : (tupleText (PyData.shownAll ds)).length ≤ sizeLine := by simpa only [PyData.shown] using hz2
    obtain ⟨as, bs, hr, hb, hk⟩ := De.rkAll I ds _ its ha rv (by simpa only [shwE] using hs) (fun t ht => Nat.le_trans (tupleText_mem_le ht) hz')
    have rr : Reads s.heap (.ref a) (.tuple ds) _ := Reads.tuple ho hc hd hr
    have hna : a ∉ bs := not_mem_of_deeper rr (by simp only [PyData.depth]; omega) hb
    simp only [PyData.depth] at hdp
    simp only [PyData.shown] at q
    refine call_repr_slot (T := "tuple") (idr := "tuple.__repr__") (by omega) ⟨_, ho, hc⟩ PySem.F.slot_tuple_repr ?_
    exact call_tuple_reprK ho hc hd hna hk hg (fun b _ => Clear.nil b) (by show X.A.units + 1 + _ < cLine; omega) (fun _ _ e => e) (fun h' u tk hk => ⟨_, _, rfl, .str _, H, I.kept hk, ⟨_, rfl⟩, q⟩) hz'
  | emp ha =>
    exact k_reprU rfl hg hu pins s σ H _ [u] Q I r (.inr ⟨_, rfl, ha, q⟩)
end

/-! ### d.update(e), two dicts -/
section
open PyProof PyProof.Rows PySem.Calls PySem.Spec
def rUpdD : V → List V → Hp → VK → Prop := fun x vs H Q => ∃ (a b : Addr) (kvs more : List (Key × V)), x = .ref a ∧ vs = [.ref b] ∧ a ≠ b ∧ H a = some (.dK kvs) ∧ H b = some (.dK more) ∧ kvs.length + more.length ≤ 1000000 ∧ Q .non (upd H a (.dK (mergeK kvs more)))
theorem mtd_update {X : Cx} : MtR X "dict.update" rUpdD := by
  intro pins s σ H x vs v us Q I rx rv h
  obtain ⟨a, b, kvs, more, ex, ev, ne, ha, hb, hl, q⟩ := h
  subst ex ev
  obtain rfl : v = Value.ref a := rx
  obtain ⟨u, eu, ru⟩ := vals1 rv
  subst eu
  obtain rfl : u = Value.ref b := ru
  obtain ⟨wa, la, vs1, rel1, dof1⟩ := dk_of I.hok ha
  obtain ⟨wb, lb, vs2, rel2, dof2⟩ := dk_of I.hok hb
  have l1 := rel1.length
  have l2 := rel2.length
  refine call_meetsIn PySem.F.slot_dict_update dof1.typeIs PySem.F.entry_dict_update (PySem.F.args_dict_update_2 _ _) (meets_dict_update (mixKind X.prog X.w) a b ne lb) ⟨vs1, vs2, dof1, dof2, by rw [← l1, ← l2]; exact Nat.le_trans hl (by rw [sizeLine_eq]; decide), fun g d1 d2 sb => ?_⟩
  have I2 := d_write (t' := s.toks) I (by rw [ha]; trivial) sb (by obtain ⟨ep, ob, es, got, _⟩ := d1.dictAt; exact ⟨ob, got⟩) (dk_new (by refine Nat.le_trans (length_mergeK more kvs) (Nat.le_trans hl (by rw [sizeLine_eq]; decide))) la (rel2.merge rel1) d1)
  exact ⟨.non, _, I2, rfl, q⟩
def rClrD : V → List V → Hp → VK → Prop := fun x vs H Q => ∃ (a : Addr) (kvs : List (Key × V)), x = .ref a ∧ vs = [] ∧ H a = some (.dK kvs) ∧ Q .non (upd H a (.dK []))
theorem mtd_clr {X : Cx} : MtR X "dict.clear" rClrD := by
  intro pins s σ H x vs v us Q I rx rv h
  obtain ⟨a, kvs, ex, ev, ha, q⟩ := h
  subst ex ev
  obtain rfl : v = Value.ref a := rx
  cases rv
  exact d_clear I ha fun t J => ⟨.non, _, J, rfl, q⟩
end

/-! ### len(o) by the text's own method -/
section
variable {X : Cx} {K : PySem.W.Frag} {k : Nat} {C f : Addr} {fd : FuncData} {ps : List Str} {sp : Sp} {E : XK}
theorem run_in {A : Around} {pins : List (Addr × Obj)} {σ : L2.St} {H : Hp} {s : Shared} {Q : VK} {vs : List V} {us : List Value}
    (F : Fg X k f fd ps sp) (z : RoomG k A) (hA : A.frames = X.A.frames) (hb : BindsD X.K fd ps []) (hx : Ps X E)
    (I : Inv X pins σ H s) (r : Vals vs us) (h : sp vs H Q E) :
    wpAny (model X.prog X.w) A (call (.ref f) us) (EP X pins σ Q) X.xe s := by
  obtain ⟨ds, hd, hb⟩ := hb
  cases hd
  have e := I.env0
  have e0 : Env0 X.prog X.w X.K X.mg X.base A X.stack s H :=
    ⟨by rw [hA]; exact e.frames, e.mod, e.bs, e.bsz, e.funs, e.frf, e.hok, e.bare⟩
  have hl : (us ++ []).length = ps.length := by
    rw [List.append_nil, ← r.length]
    exact F.len _ _ _ _ h
  have b := hb s us I.kIn hl
  rw [List.append_nil] at b
  refine wpAny_call (codeAny_mono (F.run A X.stack s H ⟨us, []⟩ us vs Q E z e0 b r h) ?_)
  intro q s' hq
  match q, hq with
  | .error e, hq => exact hx pins σ H s e s' I hq
  | .ok (.ret u), hq => exact I.after hq
  | .ok .next, hq => exact False.elim hq
  | .ok .brk, hq => exact False.elim hq
  | .ok .cont, hq => exact False.elim hq
theorem RoomG.in1 {k : Nat} {A : Around} (z : RoomG (k + 1) A) : RoomG k A.in1 := ⟨z.r.in1, z.g⟩
end

section
variable {X : Cx} {K : PySem.W.Frag} {k : Nat} {C f : Addr} {fd : FuncData} {ps : List Str} {sp : Sp} {E : XK}
def rLenM (C : Addr) (sp : Sp) (E : XK) : List V → Hp → VK → Prop := fun xs H Q => ∃ (a dx : Addr) (fs : List (Str × V)), xs = [.ref a] ∧ H a = some (.ins C dx fs) ∧
  sp [.ref a] H (fun v H' => ∃ n : Int, v = .int n ∧ (0 ≤ n ∧ n < 9223372036854775808) ∧ Q (.int n) H') E
theorem k_lenM (h : X.K = K) (hm : Meth X.K C "__len__" f) (F : Fg X k f fd ps sp) (z : RoomG (k + 1) X.A) (hb : BindsD X.K fd ps []) (hx : Ps X E) :
    CallR X (.builtin "len") (rLenM C sp E) := by
  intro pins s σ H xs us Q I r h
  obtain ⟨a, dx, fs, rfl, ha, hsp⟩ := h
  obtain ⟨u, rfl, rx⟩ := vals1 r
  cases rx
  obtain ⟨mA, J, _⟩ := ins_get I.hok ha
  obtain ⟨od, J, _⟩ := J.look
  obtain ⟨m, hF⟩ := I.fr
  refine PySem.W.len_K hF I.ok.mod.kin J hm.at_ hm.fn ?_
  have r0 : Vals [V.ref a] [Value.ref a] := .cons rfl .nil
  refine wpAny_mono (run_in F (RoomG.in1 z) rfl hb hx I r0 hsp) ?_ (fun e s' q => q)
  rintro u s' ⟨v, H', I', rv, n, rfl, hn, q⟩
  obtain ⟨t, rfl⟩ := rv
  exact ⟨hn, ⟨.int n, H', I'.tok _, ⟨_, rfl⟩, q⟩⟩
theorem i_lenM {H : Hp} {Q : VK} {a dx : Addr} {fs : List (Str × V)} (ha : H a = some (.ins C dx fs))
    (h : sp [.ref a] H (fun v H' => ∃ n : Int, v = .int n ∧ (0 ≤ n ∧ n < 9223372036854775808) ∧ Q (.int n) H') E) : rLenM C sp E [.ref a] H Q :=
  ⟨a, dx, fs, rfl, ha, h⟩
end

/-! ### ==, != by the text's own __eq__ -/
section
open PySem.Calls PyProof.Rows
theorem ne_entry : entryFor table "object.__ne__" = some Builtin.«object.__ne__» := PySem.F.cmpEntry_ne
theorem ne_bind (self : Value) : bindSpecial (.builtin "object.__ne__") self = pure (.builtin "object.__ne__", [self]) :=
  (Slot.of (T := "object") (name := "__ne__") (owner := "object") (n := "__ne__") (by rw [typeLookup_type, builtinLookup_eq_fast]; kernel_rfl) (by decide +kernel) (by decide +kernel) (by decide +kernel)
    (.inl (by decide +kernel)) (by rw [isSubtype_type]; kernel_rfl)).bind self
section
open PySem.W
variable {prog : Program} {w : World} {A : Around} {E : Value → Shared → Prop} {s : Shared} {K : PySem.W.Frag} {x C L f : Addr} {h₀ : Heap} {m : Str → Option Value} {ox : Obj} {od : Option Obj} {b tb : Value}
/-- the wrapper that stands in object's class, found for an instance of C and bound to it -/
theorem ne_bound {M : Model} {Q : Option (Value × List Value) → Shared → Prop} (inn : K.In s.heap) (J : InstAt s.heap x ox C od)
    (at_ : findIn K (.ref C) "__ne__" = some (some (.builtin "object.__ne__"))) (q : Q (some (.builtin "object.__ne__", [.ref x])) s) :
    wpAny M A (bindSpecialIfBound? (.ref x) "__ne__") Q E s := by
  have step : ∀ {P : Option (Value × List Value) → Shared → Prop}, P (some (.builtin "object.__ne__", [.ref x])) s →
      wpAny M A (bindSpecial (.builtin "object.__ne__") (.ref x) >>= fun r => pure (some r)) P E s := fun {P} r => by
    rw [ne_bind]
    exact wpAny_bind (wpAny_pure (wpAny_pure r))
  unfold bindSpecialIfBound?
  apply wpAny_bind
  apply wpAny_bind
  refine J.type.here ((looks_findIn inn at_).here ?_)
  apply wpAny_bind
  refine wpAny_askSetting ?_
  by_cases c : (⟨M.prog, M.w.params⟩ : Setting).params.followText "special-get-raises" = true
  · rw [if_pos c]
    exact step q
  · rw [if_neg c]
    exact wpAny_tryCatch (step q)
def NeB (Q : Value → Shared → Prop) (v : Value) (s' : Shared) : Prop := ∃ t, v = .bool t ∧ Q (.bool (!t)) s'
/-- object.__ne__ asks the text's own __eq__ and turns it about -/
theorem ne_asked {P : Fin → Shared → Prop} (room : A.units < cLine) (inn : K.In s.heap) (J : InstAt s.heap x ox C od)
    (eq_ : findIn K (.ref C) "__eq__" = some (some (.ref f))) (fn_ : isFn K (.ref f) = true)
    (h : wpAny (model prog w) A (call (.ref f) [.ref x, b]) (fun v s' => ∃ t, v = .bool t ∧ P (.done (.ret (.bool (!t)))) s') E s) :
    wpAny (model prog w) A (Builtin.«object.__ne__» ⟨[.ref x, b], []⟩) P E s := by
  unfold Builtin.«object.__ne__»
  apply wpAny_bind
  apply wpAny_pure
  apply wpAny_bind
  refine wpAny_cRoomFor room (wpAny_bind (ifBound_K inn J eq_ fn_ (wpAny_mono h ?_ fun _ _ z => z)))
  rintro v s' ⟨t, rfl, r⟩
  apply wpAny_bind
  exact wpAny_truthy_bool (wpAny_pure r)
theorem ne_K {Q : Value → Shared → Prop} (room : A.units + 1 < cLine) (frame : PyProof.Rows.Fr h₀ L s.heap m) (inn₀ : K.In h₀) (J : InstAt s.heap x ox C od)
    (tyb : Looks (model prog w) s.heap (typeOf b) tb) (nf : notFirst K C tb = true) (at_ : findIn K (.ref C) "__ne__" = some (some (.builtin "object.__ne__")))
    (eq_ : findIn K (.ref C) "__eq__" = some (some (.ref f))) (fn_ : isFn K (.ref f) = true) (ob : mroIn K C (.type "object") = some true)
    (h : wpAny (model prog w) A.in1 (call (.ref f) [.ref x, b]) (NeB Q) E s) : wpAny (model prog w) A (richCompare .NotEq (.ref x) b) Q E s := by
  have inn := inn₀.keeps frame.keep
  have is_ob : Looks (model prog w) s.heap (isInstance (.ref x) (.type "object")) true := J.type.andThen (looks_subIn inn ob)
  have told : wpAny (model prog w) A (tryCompare (.ref x) "__ne__" b) (fun r s' => ∃ v, r = some v ∧ Q v s') E s := by
    unfold tryCompare callSpecialIfBound?
    refine wpAny_bind (wpAny_holding (wpAny_bind (ne_bound inn J at_ ?_)))
    refine wpAny_bind (wpAny_call (codeAny_call_builtin (by decide +kernel) ne_entry
      (check_slot (M := model prog w) (owner := "object") (n := "__ne__") (by decide +kernel) (by decide +kernel) is_ob (PySem.F.cmpArgs_ne _ _) ?_)))
    refine ne_asked (A := A.in1) room inn J eq_ fn_ (wpAny_mono h ?_ fun _ _ z => z)
    rintro v s' ⟨t, rfl, r⟩
    exact ⟨t, rfl, wpAny_pure (wpAny_pure ⟨_, rfl, r⟩)⟩
  unfold richCompare
  simp only [oneThing_ref]
  refine wpAny_holding (wpAny_bind (wpAny_cRoomFor (Nat.lt_of_succ_lt room) ?_))
  apply wpAny_bind
  refine J.type.here ?_
  apply wpAny_bind
  refine tyb.here ?_
  split
  · rename_i e
    have le : subIn K tb (.ref C) = some false := by
      unfold notFirst at nf
      rw [Bool.or_eq_true] at nf
      rcases nf with z | z
      · rw [beq_iff_eq.mp z] at e
        simp at e
      · exact beq_iff_eq.mp z
    apply wpAny_bind
    refine (looks_subIn inn le).here ?_
    rw [if_neg Bool.false_ne_true]
    apply wpAny_bind
    refine wpAny_mono told ?_ fun _ _ z => z
    rintro r s' ⟨v, rfl, z⟩
    exact wpAny_pure z
  · apply wpAny_bind
    apply wpAny_pure
    rw [if_neg Bool.false_ne_true]
    apply wpAny_bind
    refine wpAny_mono told ?_ fun _ _ z => z
    rintro r s' ⟨v, rfl, z⟩
    exact wpAny_pure z
end
end
section
variable {X : Cx} {K : PySem.W.Frag} {k : Nat} {C f : Addr} {fd : FuncData} {ps : List Str} {sp : Sp} {E : XK}
/-- the types of values that are no instances of the class at C -/
def Other (K : PySem.W.Frag) (C : Addr) (t : Value) : Prop := PySem.W.kitOne K t (.ref C) = some false ∧ PySem.W.notFirst K C t = true
def rCmpM (K : PySem.W.Frag) (C : Addr) (sp : Sp) (E : XK) (g : Bool → Bool) : R2 := fun x y H Q => ∃ (a dx : Addr) (fs : List (Str × V)) (t : Value), x = .ref a ∧ H a = some (.ins C dx fs) ∧
  TyX K H y t ∧ PySem.W.notFirst K C t = true ∧ sp [x, y] H (fun v H' => ∃ b, v = .bl b ∧ Q (.bl (g b)) H') E
theorem k_eqM (h : X.K = K) (hm : Meth X.K C "__eq__" f) (F : Fg X k f fd ps sp) (z : RoomG k X.A) (hb : BindsD X.K fd ps []) (hx : Ps X E) :
    OpR X (compareOp .Eq) (rCmpM K C sp E id) := by
  subst h
  intro pins s σ H x y v u Q I rx ry h
  obtain ⟨a, dx, fs, t, rfl, ha, ty, nf, hsp⟩ := h
  cases rx
  obtain ⟨mA, J, _⟩ := ins_get I.hok ha
  obtain ⟨od, J, _⟩ := J.look
  obtain ⟨m, hF⟩ := I.fr
  obtain ⟨P, KX, hP, _⟩ := kit_of I ry ty
  unfold compareOp
  refine PySem.W.cmp_K (op := .Eq) (tb := t) z.r.units0 hF I.ok.mod.kin J (KX.ty _ _ I.kIn hP) nf hm.at_ hm.fn ?_
  have r0 : Vals [V.ref a, y] [Value.ref a, u] := .cons rfl (.cons ry .nil)
  refine wpAny_mono (run_in F z rfl hb hx I r0 hsp) ?_ (fun e s' q => q)
  rintro u s' ⟨v, H', I', rv, b, rfl, q⟩
  cases rv
  exact ⟨.bl b, H', I', rfl, q⟩
theorem k_neM (h : X.K = K) (hm : Meth X.K C "__eq__" f) (hne : PySem.W.findIn X.K (.ref C) "__ne__" = some (some (.builtin "object.__ne__")))
    (ho : PySem.W.mroIn X.K C (.type "object") = some true) (F : Fg X k f fd ps sp) (z : RoomG (k + 1) X.A) (hb : BindsD X.K fd ps []) (hx : Ps X E) :
    OpR X (compareOp .NotEq) (rCmpM K C sp E not) := by
  subst h
  intro pins s σ H x y v u Q I rx ry h
  obtain ⟨a, dx, fs, t, rfl, ha, ty, nf, hsp⟩ := h
  cases rx
  obtain ⟨mA, J, _⟩ := ins_get I.hok ha
  obtain ⟨od, J, _⟩ := J.look
  obtain ⟨m, hF⟩ := I.fr
  obtain ⟨P, KX, hP, _⟩ := kit_of I ry ty
  unfold compareOp
  refine ne_K (tb := t) (u1 z.r.units) hF I.ok.mod.kin J (KX.ty _ _ I.kIn hP) nf hne hm.at_ hm.fn ho ?_
  have r0 : Vals [V.ref a, y] [Value.ref a, u] := .cons rfl (.cons ry .nil)
  refine wpAny_mono (run_in F (RoomG.in1 z) rfl hb hx I r0 hsp) ?_ (fun e s' q => q)
  rintro u s' ⟨v, H', I', rv, b, rfl, q⟩
  cases rv
  exact ⟨b, rfl, .bl (!b), H', I', rfl, q⟩
def rReprM (C : Addr) (sp : Sp) (E : XK) : List V → Hp → VK → Prop := fun xs H Q => ∃ (a dx : Addr) (fs : List (Str × V)), xs = [.ref a] ∧ H a = some (.ins C dx fs) ∧
  sp [.ref a] H (fun v H' => ∃ t : Str, v = .str t ∧ Q (.str t) H') E
theorem k_reprM (h : X.K = K) (hm : Meth X.K C "__repr__" f) (F : Fg X k f fd ps sp) (z : RoomG (k + 1) X.A) (hb : BindsD X.K fd ps []) (hx : Ps X E) :
    CallR X (.builtin "repr") (rReprM C sp E) := by
  intro pins s σ H xs us Q I r h
  obtain ⟨a, dx, fs, rfl, ha, hsp⟩ := h
  obtain ⟨u, rfl, rx⟩ := vals1 r
  cases rx
  obtain ⟨mA, J, _⟩ := ins_get I.hok ha
  obtain ⟨od, J, _⟩ := J.look
  obtain ⟨m, hF⟩ := I.fr
  refine PySem.W.repr_K (RoomG.in1 z).r.units0 hF I.ok.mod.kin J hm.at_ hm.fn ?_
  have r0 : Vals [V.ref a] [Value.ref a] := .cons rfl .nil
  refine wpAny_mono (run_in F (RoomG.in1 z) rfl hb hx I r0 hsp) ?_ (fun e s' q => q)
  rintro u s' ⟨v, H', I', rv, n, rfl, q⟩
  obtain ⟨t, rfl⟩ := rv
  exact ⟨.str n, H', I', ⟨_, rfl⟩, q⟩
theorem i_cmpM {H : Hp} {Q : VK} {g : Bool → Bool} {y : V} {a dx : Addr} {fs : List (Str × V)} {t : Value} (ha : H a = some (.ins C dx fs)) (ty : TyX K H y t) (nf : PySem.W.notFirst K C t = true)
    (h : sp [.ref a, y] H (fun v H' => ∃ b, v = .bl b ∧ Q (.bl (g b)) H') E) : rCmpM K C sp E g (.ref a) y H Q := ⟨a, dx, fs, t, rfl, ha, ty, nf, h⟩
theorem i_reprM {H : Hp} {Q : VK} {a dx : Addr} {fs : List (Str × V)} (ha : H a = some (.ins C dx fs))
    (h : sp [.ref a] H (fun v H' => ∃ t : Str, v = .str t ∧ Q (.str t) H') E) : rReprM C sp E [.ref a] H Q := ⟨a, dx, fs, rfl, ha, h⟩
/-- {x!r}, x data that is a list -/
def tFmtD (K : PySem.W.Frag) (te : TE) : TE := fun σ H Q => te σ H fun x H1 => ∃ (a : Addr) (d : PyData), x = .ref a ∧ Dp K H1 x d ∧ shw d = true ∧ d.depth ≤ 60 ∧ cw d ≤ sizeLine ∧ Q (.str d.shown) H1
theorem k_fmtD {e : Expr} {te : TE} {pos : Pos} (h : X.K = K) (hg : X.A.guards = some []) (hu : X.A.units + 64 < cLine) (he : PE X e te) : PE X (.FormattedValue e 114 none pos) (tFmtD K te) := by
  subst h
  refine ⟨fun pins s σ H Q I h => ?_⟩
  refine wpAny_FormattedValue_repr (thn (he.run pins s σ H _ I h) fun v s1 hv => ?_)
  obtain ⟨x, H1, I1, r1, a, d, rfl, hd, hs, hdp, hz, q⟩ := hv
  obtain ⟨hs1, hs2⟩ := shw_showable d hs
  have hz2 := Nat.le_trans (shown_len d hs) hz
  cases r1
  obtain ⟨as, hr⟩ := Dp.reads I1 d _ _ hd rfl
  refine pyReprObj_of_reads hr hs1 (fun y => by rw [hs2] at y; cases y) hg (by omega) (fun _ _ e => e) (fun h' u tk hk => ?_) hz2
  have I2 := I1.kept (t' := tk) hk
  exact wpAny_formatField_str ⟨.str _, H1, I2, ⟨_, rfl⟩, q⟩ ⟨.str _, H1, I2.tok _, ⟨_, rfl⟩, q⟩ hz2
end

/-! ### the class Program -/
theorem sc_NoProgram_init : FnScope ["self", "row"] ["self", "row"] (defScope s_NoProgram_init) :=
  ⟨rfl, rfl, rfl, by decide +kernel, rfl, by decide +kernel, by decide +kernel⟩
theorem ok_NoProgram_init {P : Program} {w : World} {K : PySem.W.Frag} {mg : Str → Option Value} {base : Heap} (T : Txt w K mg) :
    FnG P w K mg base 1 T.a_NoProgram_init T.d_NoProgram_init ["self", "row"] (sp_xinit T.x_NoProgram "row") := by
  refine okD T.F_NoProgram_init sc_NoProgram_init (fun vs H Q E h => ?_) (fun cdv A outer s H vs Q E hr h => ?_)
  · first
      | (obtain ⟨_, rfl, _⟩ := h; rfl)
      | (obtain ⟨_, _, rfl, _⟩ := h; rfl)
      | (obtain ⟨_, _, _, rfl, _⟩ := h; rfl)
      | (obtain ⟨_, _, _, _, rfl, _⟩ := h; rfl)
      | (obtain ⟨_, _, _, _, _, rfl, _⟩ := h; rfl)
      | (obtain ⟨_, _, _, _, _, _, rfl, _⟩ := h; rfl)
      | (obtain ⟨_, _, _, _, _, _, _, rfl, _⟩ := h; rfl)
      | (obtain ⟨_, _, _, _, _, _, _, _, rfl, _⟩ := h; rfl)
      | (obtain ⟨_, _, _, _, _, _, _, _, _, rfl, _⟩ := h; rfl)
      | (obtain ⟨_, _, _, _, _, _, _, _, _, _, rfl, _⟩ := h; rfl)
      | (obtain ⟨_, _, _, _, _, _, _, _, _, _, _, rfl, _⟩ := h; rfl)
      | (obtain ⟨_, _, _, _, _, _, _, _, _, _, _, _, rfl, _⟩ := h; rfl)
      | (obtain ⟨_, _, _, _, _, _, _, _, _, _, _, _, _, rfl, _⟩ := h; rfl)
      | (obtain ⟨_, _, _, _, _, _, _, _, _, _, _, _, _, _, rfl, _⟩ := h; rfl)
      | (obtain ⟨_, _, _, _, _, _, _, _, _, _, _, _, _, _, _, rfl, _⟩ := h; rfl)
      | (obtain ⟨_, _, _, _, _, _, _, _, _, _, _, _, _, _, _, _, rfl, _⟩ := h; rfl)
      | (obtain ⟨_, _, _, _, _, _, _, _, _, _, _, _, _, _, _, _, _, rfl, _⟩ := h; rfl)
      | (obtain ⟨_, _, _, _, _, _, _, _, _, _, _, _, _, _, _, _, _, _, rfl, _⟩ := h; rfl)
      | (obtain ⟨_, _, _, _, _, _, _, _, _, _, _, _, _, _, _, _, _, _, _, rfl, _⟩ := h; rfl)
  · obtain ⟨a, y, rfl, ha, k⟩ := h
    have cl_Program := T.cl_Program
    have na_Program_own_rows := T.na_Program_own_rows
    have na_Program_own_size := T.na_Program_own_size
    refine ⟨_, (pss_cons (ps_expr (x_baseC under_ValueError (by rfl) T.mx_ForkError T.xbg_NoProgram T.xbr_NoProgram T.xv_NoProgram (pa_cons (pv 0) (pa_cons pe_str pa_nil))))
      (pss_one (x_put (B := "ValueError") (newId := "ValueError.__new__") (initId := "ValueError.__init__") (tail := [.type "ValueError", .type "Exception", .type "BaseException", .type "object"]) (pv 0) (pv 1)))), ?_⟩
    dsimp only [cxOf, st_1, st_2, st_3, st_4, st_5, st_6, List.length_cons, List.length_nil, List.replicate_succ, List.replicate_zero, Nat.reduceAdd, Nat.reduceSub]
    walk_at "gs"
    refine ⟨a, T.x_NoProgram, [.str "no program"], rfl, by decide, T.xc_NoProgram, ha, ?_⟩
    walk_at "gs"
    refine ⟨a, T.x_NoProgram, rfl, T.xc_NoProgram, T.xn_NoProgram, ha, fun dx n ne => ?_⟩
    walk_at "gs"
    exact k dx n ne
def pfs (n : Int) (R : Addr) : List (Str × V) := [("own_size", .int n), ("own_rows", .ref R)]
/-- things in a list, whose data are told -/
def RowsV (K : PySem.W.Frag) (H : Hp) (ws : List Addr) (xs : List V) (ds : List PyData) : Prop :=
  xs.length = ds.length ∧ ∀ (i : Nat) (x : V), xs[i]? = some x → ∃ d, ds[i]? = some d ∧ Tg K H ws x d ∧ ∀ es, d = .tuple es → SeqAt.shaped d = true ∧ es.length ≤ 1000
theorem RowsV.kp {K : PySem.W.Frag} {H H' : Hp} {ws : List Addr} {xs : List V} {ds : List PyData} (h : RowsV K H ws xs ds) (k : Kp ws H H') : RowsV K H' ws xs ds :=
  ⟨h.1, fun i x hx => let ⟨d, a, b, c⟩ := h.2 i x hx; ⟨d, a, b.kp k, c⟩⟩
def badAt (ds : List PyData) (n : Int) : Option Nat := ds.findIdx? fun d => !rowOk d n ds.length
theorem badAt_step {p : PyData → Bool} : ∀ {ds : List PyData} {i : Nat}, (∀ j, j < i → ∀ d, ds[j]? = some d → p d = false) → ∀ {d}, ds[i]? = some d → p d = true → ds.findIdx? p = some i
  | [], i, _, d, e, _ => by simp at e
  | a :: ds, 0, _, d, e, h => by
    cases e
    rw [List.findIdx?_cons, h]
    rfl
  | a :: ds, i + 1, k, d, e, h => by
    have h0 := k 0 (by omega) a rfl
    rw [List.findIdx?_cons, h0, badAt_step (i := i) (fun j hj d hd => k (j + 1) (by omega) d hd) (d := d) e h]
    rfl
theorem badAt_none {p : PyData → Bool} {ds : List PyData} (h : ∀ j, j < ds.length → ∀ d, ds[j]? = some d → p d = false) : ds.findIdx? p = none := by
  rw [List.findIdx?_eq_none_iff]
  intro x hx
  obtain ⟨i, hi⟩ := List.getElem?_of_mem hx
  exact h i (List.getElem?_eq_some_iff.mp hi).1 x hi
def sp_pinit (K : PySem.W.Frag) (CP XS XP : Addr) : Sp := fun vs H Q E => ∃ (p dx : Addr) (x y : V) (da : PyData), vs = [.ref p, x, y] ∧ H p = some (.ins CP dx []) ∧ Any K H x da ∧
  (whD da 1 1000000000000000000 = false → E (.ref XS) none H) ∧ ∀ n, da = .int n → whD da 1 1000000000000000000 = true →
    ((∃ db, Any K H y db ∧ kLst db = false ∧ ∀ e H', Kp [] H H' → H' e = some (.xd [(("row" : Str), .non)]) → E (.ref XP) (some e) H') ∨
     ∃ (R0 : Addr) (xs : List V) (ds : List PyData), y = .ref R0 ∧ H R0 = some (.lst xs) ∧ RowsV K H [] xs ds ∧ xs.length ≤ 1000 ∧
       (∀ i, badAt ds n = some i → ∀ e H', Kp [] H H' → H' e = some (.xd [(("row" : Str), .int (i : Nat))]) → E (.ref XP) (some e) H') ∧
       (badAt ds n = none → ∀ R H', Fr H R → Kp [p] H H' → H' p = some (.ins CP dx (pfs n R)) → H' R = some (.lst xs) → Q .non H'))
theorem sc_Program_init : FnScope ["self", "size", "rows", "number", "row"] ["self", "size", "rows"] (defScope s_Program_init) :=
  ⟨rfl, rfl, rfl, by decide +kernel, rfl, by decide +kernel, by decide +kernel⟩
theorem ok_Program_init {P : Program} {w : World} {K : PySem.W.Frag} {mg : Str → Option Value} {base : Heap} (T : Txt w K mg) :
    FnG P w K mg base 4 T.a_Program_init T.d_Program_init ["self", "size", "rows"] (sp_pinit K T.c_Program T.x_NoSize T.x_NoProgram) := by
  refine okD T.F_Program_init sc_Program_init (fun vs H Q E h => ?_) (fun cdv A outer s H vs Q E hr h => ?_)
  · first
      | (obtain ⟨_, rfl, _⟩ := h; rfl)
      | (obtain ⟨_, _, rfl, _⟩ := h; rfl)
      | (obtain ⟨_, _, _, rfl, _⟩ := h; rfl)
      | (obtain ⟨_, _, _, _, rfl, _⟩ := h; rfl)
      | (obtain ⟨_, _, _, _, _, rfl, _⟩ := h; rfl)
      | (obtain ⟨_, _, _, _, _, _, rfl, _⟩ := h; rfl)
      | (obtain ⟨_, _, _, _, _, _, _, rfl, _⟩ := h; rfl)
      | (obtain ⟨_, _, _, _, _, _, _, _, rfl, _⟩ := h; rfl)
      | (obtain ⟨_, _, _, _, _, _, _, _, _, rfl, _⟩ := h; rfl)
      | (obtain ⟨_, _, _, _, _, _, _, _, _, _, rfl, _⟩ := h; rfl)
      | (obtain ⟨_, _, _, _, _, _, _, _, _, _, _, rfl, _⟩ := h; rfl)
      | (obtain ⟨_, _, _, _, _, _, _, _, _, _, _, _, rfl, _⟩ := h; rfl)
      | (obtain ⟨_, _, _, _, _, _, _, _, _, _, _, _, _, rfl, _⟩ := h; rfl)
      | (obtain ⟨_, _, _, _, _, _, _, _, _, _, _, _, _, _, rfl, _⟩ := h; rfl)
      | (obtain ⟨_, _, _, _, _, _, _, _, _, _, _, _, _, _, _, rfl, _⟩ := h; rfl)
      | (obtain ⟨_, _, _, _, _, _, _, _, _, _, _, _, _, _, _, _, rfl, _⟩ := h; rfl)
      | (obtain ⟨_, _, _, _, _, _, _, _, _, _, _, _, _, _, _, _, _, rfl, _⟩ := h; rfl)
      | (obtain ⟨_, _, _, _, _, _, _, _, _, _, _, _, _, _, _, _, _, _, rfl, _⟩ := h; rfl)
      | (obtain ⟨_, _, _, _, _, _, _, _, _, _, _, _, _, _, _, _, _, _, _, rfl, _⟩ := h; rfl)
  · obtain ⟨p, dx, x, y, da, rfl, hp, hx, rS, k⟩ := h
    have cl_Program := T.cl_Program
    have na_Program_own_rows := T.na_Program_own_rows
    have na_Program_own_size := T.na_Program_own_size
    refine ⟨_, (pss_cons (ps_if (pt_not (pt_val (d1 (ok_is_size T) (hr.mono (by decide)) (by rfl) T.m_is_size T.F_is_size.kp T.b_is_size passL (pa_cons (pv 1) pa_nil)))) (pss_one (ps_raise rfl (takes_of rfl rfl rfl rfl) (pmk_own PySem.F.excBase_ValueError T.en_NoSize T.mx_NoSize T.ek_NoSize (raises_own T.ec_NoSize.hs T.et_NoSize) rfl))) pss_nil)
      (pss_cons (ps_if (pt_not (pt_val (pe_callB (k_isi (K := K) rfl) (by rfl) T.n_isinstance (by decide +kernel) (pa_cons (pv 2) (pa_cons (pe_bltn (v := .ty "list") (by rfl) T.n_list (by decide +kernel) rfl) pa_nil))))) (pss_one (ps_raise rfl (takes_of rfl rfl rfl rfl) (x_new T.xc_NoProgram T.xi_NoProgram T.xt_NoProgram (ok_NoProgram_init T) (hr.mono (by decide)) T.b_NoProgram_init (by rfl) T.mx_NoProgram (pa_cons pe_non pa_nil)))) pss_nil)
      (pss_cons (ps_for (passes_of rfl) rfl (pi_enum (by rfl) T.n_enumerate (pa_cons (pv 2) pa_nil)) (k_gtup (K := K) 2 rfl rfl (pgs_cons (pg_name (i := 3) sc_Program_init.nd rfl (Or.inl rfl)) (pgs_cons (pg_name (i := 4) sc_Program_init.nd rfl (Or.inl rfl)) pgs_nil)))
      (pss_one (ps_if (pt_not (pt_val (d1 (ok_is_program_row T) (hr.mono (by decide)) (by rfl) T.m_is_program_row T.F_is_program_row.kp T.b_is_program_row passL (pa_cons (pv 4) (pa_cons (pv 1) (pa_cons (pe_callB (k_len (K := K) rfl) (by rfl) T.n_len (by decide +kernel) (pa_cons (pv 2) pa_nil)) pa_nil)))))) (pss_one (ps_raise rfl (takes_of rfl rfl rfl rfl) (x_new T.xc_NoProgram T.xi_NoProgram T.xt_NoProgram (ok_NoProgram_init T) (hr.mono (by decide)) T.b_NoProgram_init (by rfl) T.mx_NoProgram (pa_cons (pv 3) pa_nil)))) pss_nil)))
      (pss_cons (k_sfld (K := K) rfl (pv 0) (pv 1) rfl)
      (pss_one (k_sfld (K := K) rfl (pv 0) (pe_callTy (k_list (K := K) rfl) (by rfl) T.n_list (by decide +kernel) (pa_cons (pv 2) pa_nil)) rfl)))))), ?_⟩
    dsimp only [cxOf, st_1, st_2, st_3, st_4, st_5, st_6, List.length_cons, List.length_nil, List.replicate_succ, List.replicate_zero, Nat.reduceAdd, Nat.reduceSub]
    walk_at "gs"
    refine ⟨x, da, rfl, hx, ?_⟩
    walk_at "gs"
    refine i_bool2 (fun c => ?_) (fun c => ?_)
    · have c : whD da 1 1000000000000000000 = false := by cases h : whD da 1 1000000000000000000 <;> simp [h] at c ⊢
      walk_at "gs"
      exact rS c
    have c : whD da 1 1000000000000000000 = true := by cases h : whD da 1 1000000000000000000 <;> simp [h] at c ⊢
    obtain ⟨n, rfl, n1, n2⟩ := whD_int c
    obtain rfl := hx.2 n rfl
    rcases k n rfl c with ⟨db, hdb, nl, rP⟩ | ⟨R0, xs, ds, rfl, hR0, rows, few, rP, k⟩
    · walk_at "gs"
      refine i_isA hdb (kit_lst db) ?_
      rw [nl]
      walk_at "gs"
      refine i_newX ⟨V.non, rfl, fun e fe => ?_⟩ (mono_cons mono_c mono_nil)
      exact rP e _ (Kp.new fe) upd_same
    · have lx := rows.1
      walk_at "gs"
      refine ⟨.ref R0, .ty "list", _, _, true, rfl, .ty "list", .base (.lst hR0), L2.kit_ty (by decide), ?_⟩
      walk_at "gs"
      refine i_forE ?_
      walk_at "gs"
      refine i_eachE (SqL.of hR0) (fun i σ H' => ∃ (o3 o4 : Option V), σ = [some (.ref p), some (.int n), some (.ref R0), o3, o4] ∧ Kp [] H H' ∧ ∀ j, j < i → ∀ d, ds[j]? = some d → (!rowOk d n ds.length) = false) ?_ ?_ ?_ ?_
      · exact ⟨_, _, rfl, Kp.refl, fun j h => absurd h (by omega)⟩
      · rintro i σ H' _ ⟨o3, o4, rfl, k1, _⟩
        exact SqL.of (k1.at_ _ _ hR0 not_nil)
      · rintro i xv T σ H1 hxv ⟨o3, o4, rfl, k1, z⟩ fT
        have kT : Kp [] H1 (upd H1 T (.tup [.int (i : Nat), xv])) := Kp.new fT
        have hT : SqT K (upd H1 T (.tup [.int (i : Nat), xv])) T [.int (i : Nat), xv] := SqT.of upd_same
        obtain ⟨H2, e2⟩ : ∃ H2, H2 = upd H1 T (.tup [.int (i : Nat), xv]) := ⟨_, rfl⟩
        rw [← e2] at kT hT ⊢
        have k2 := Kp.trans k1 kT
        obtain ⟨d, hd, tg, sh⟩ := rows.2 i xv hxv
        have hR2 := k2.at_ _ _ hR0 not_nil
        walk_at "gs"
        refine ⟨xv, d, n, _, rfl, tg.kp k2, sh, fun H3 k3 => ?_⟩
        rw [lx]
        walk_at "gs"
        refine i_bool2 (fun c2 => ?_) (fun c2 => ?_)
        · walk_at "gs"
          refine i_newX ?_ (mono_cons mono_var mono_nil)
          walk_at "gs"
          refine ⟨_, rfl, fun e fe => ?_⟩
          refine rP i (badAt_step (p := fun d => !rowOk d n ds.length) z hd c2) e _ (Kp.trans (Kp.trans k2 k3) (Kp.new fe)) upd_same
        · walk_at "gs"
          refine ⟨_, _, rfl, Kp.trans k2 k3, fun j hj d' hd' => ?_⟩
          by_cases e : j = i
          · subst e
            rw [hd] at hd'
            cases hd'
            exact c2
          · exact z j (by omega) d' hd'
      · rintro σ H1 ⟨o3, o4, rfl, k1, z⟩
        have none_ : badAt ds n = none := badAt_none (p := fun d => !rowOk d n ds.length) (fun j hj d hd => z j (by omega) d hd)
        have hp1 : H1 p = some (.ins T.c_Program dx []) := k1.at_ _ _ hp not_nil
        have hR1 := k1.at_ _ _ hR0 not_nil
        walk_at "gs"
        have nRp : R0 ≠ p := fun e => by
          rw [e, hp1] at hR1
          cases hR1
        have kA : Kp [p] H1 (upd H1 p (HO.ins T.c_Program dx (putF (Str.ofString "own_size") (V.int n) []))) := kp_set hp1 (fun z => z)
        have hpA : (upd H1 p (HO.ins T.c_Program dx (putF (Str.ofString "own_size") (V.int n) []))) p = some (HO.ins T.c_Program dx (putF (Str.ofString "own_size") (V.int n) [])) := upd_same
        have hRA := kA.at_ _ _ hR1 (not_one nRp)
        obtain ⟨HA, eA⟩ : ∃ HA, HA = upd H1 p (HO.ins T.c_Program dx (putF (Str.ofString "own_size") (V.int n) [])) := ⟨_, rfl⟩
        rw [← eA] at kA hpA hRA ⊢
        refine i_listL (SqL.of hRA) ?_
        refine i_new fun R fR => ?_
        have kR : Kp [] HA (upd HA R (.lst xs)) := Kp.new fR
        have hpR := kR.at_ _ _ hpA not_nil
        have hRR : (upd HA R (.lst xs)) R = some (.lst xs) := upd_same
        have nR : R ≠ p := fun e => by
          have := fR.e
          rw [e, hpA] at this
          cases this
        obtain ⟨HB, eB⟩ : ∃ HB, HB = upd HA R (.lst xs) := ⟨_, rfl⟩
        rw [← eB] at kR hpR hRR ⊢
        walk_at "gs"
        have kE : Kp [p] HB (upd HB p (HO.ins T.c_Program dx (putF (Str.ofString "own_rows") (V.ref R) (putF (Str.ofString "own_size") (V.int n) [])))) := kp_set hpR (fun z => z)
        refine k none_ R _ (k1.free (kA.free fR)) (Kp.trans k1.wide (Kp.trans kA (Kp.trans kR.wide kE))) ?_ (kE.at_ _ _ hRR (not_one nR))
        exact upd_same
/-- a program with its rows -/
def ProgAt (CP : Addr) (H : Hp) (p R : Addr) (n : Int) (xs : List V) : Prop := ∃ dx, H p = some (.ins CP dx (pfs n R)) ∧ H R = some (.lst xs)
theorem ProgAt.kp {CP : Addr} {H H' : Hp} {p R : Addr} {n : Int} {xs : List V} {ws : List Addr} (h : ProgAt CP H p R n xs) (k : Kp ws H H') (n1 : p ∉ ws) (n2 : R ∉ ws) : ProgAt CP H' p R n xs := by
  obtain ⟨dx, h1, h2⟩ := h
  exact ⟨dx, k.at_ _ _ h1 n1, k.at_ _ _ h2 n2⟩
theorem ProgAt.kp0 {CP : Addr} {H H' : Hp} {p R : Addr} {n : Int} {xs : List V} (h : ProgAt CP H p R n xs) (k : Kp [] H H') : ProgAt CP H' p R n xs := h.kp k not_nil not_nil
def sp_psize (CP : Addr) : Sp := fun vs H Q _ => ∃ (p R : Addr) (n : Int) (xs : List V), vs = [.ref p] ∧ ProgAt CP H p R n xs ∧ Q (.int n) H
theorem sc_Program_size : FnScope ["self"] ["self"] (defScope s_Program_size) :=
  ⟨rfl, rfl, rfl, by decide +kernel, rfl, by decide +kernel, by decide +kernel⟩
theorem ok_Program_size {P : Program} {w : World} {K : PySem.W.Frag} {mg : Str → Option Value} {base : Heap} (T : Txt w K mg) :
    FnG P w K mg base 1 T.a_Program_size T.d_Program_size ["self"] (sp_psize T.c_Program) := by
  refine okD T.F_Program_size sc_Program_size (fun vs H Q E h => ?_) (fun cdv A outer s H vs Q E hr h => ?_)
  · first
      | (obtain ⟨_, rfl, _⟩ := h; rfl)
      | (obtain ⟨_, _, rfl, _⟩ := h; rfl)
      | (obtain ⟨_, _, _, rfl, _⟩ := h; rfl)
      | (obtain ⟨_, _, _, _, rfl, _⟩ := h; rfl)
      | (obtain ⟨_, _, _, _, _, rfl, _⟩ := h; rfl)
      | (obtain ⟨_, _, _, _, _, _, rfl, _⟩ := h; rfl)
      | (obtain ⟨_, _, _, _, _, _, _, rfl, _⟩ := h; rfl)
      | (obtain ⟨_, _, _, _, _, _, _, _, rfl, _⟩ := h; rfl)
      | (obtain ⟨_, _, _, _, _, _, _, _, _, rfl, _⟩ := h; rfl)
      | (obtain ⟨_, _, _, _, _, _, _, _, _, _, rfl, _⟩ := h; rfl)
      | (obtain ⟨_, _, _, _, _, _, _, _, _, _, _, rfl, _⟩ := h; rfl)
      | (obtain ⟨_, _, _, _, _, _, _, _, _, _, _, _, rfl, _⟩ := h; rfl)
      | (obtain ⟨_, _, _, _, _, _, _, _, _, _, _, _, _, rfl, _⟩ := h; rfl)
      | (obtain ⟨_, _, _, _, _, _, _, _, _, _, _, _, _, _, rfl, _⟩ := h; rfl)
      | (obtain ⟨_, _, _, _, _, _, _, _, _, _, _, _, _, _, _, rfl, _⟩ := h; rfl)
      | (obtain ⟨_, _, _, _, _, _, _, _, _, _, _, _, _, _, _, _, rfl, _⟩ := h; rfl)
      | (obtain ⟨_, _, _, _, _, _, _, _, _, _, _, _, _, _, _, _, _, rfl, _⟩ := h; rfl)
      | (obtain ⟨_, _, _, _, _, _, _, _, _, _, _, _, _, _, _, _, _, _, rfl, _⟩ := h; rfl)
      | (obtain ⟨_, _, _, _, _, _, _, _, _, _, _, _, _, _, _, _, _, _, _, rfl, _⟩ := h; rfl)
  · obtain ⟨p, R, n, xs, rfl, ⟨dx, hp, hR⟩, k⟩ := h
    have cl_Program := T.cl_Program
    have na_Program_own_rows := T.na_Program_own_rows
    have na_Program_own_size := T.na_Program_own_size
    refine ⟨_, (pss_one (ps_ret (k_fld (K := K) rfl (pv 0) rfl))), ?_⟩
    dsimp only [cxOf, st_1, st_2, st_3, st_4, st_5, st_6, List.length_cons, List.length_nil, List.replicate_succ, List.replicate_zero, Nat.reduceAdd, Nat.reduceSub]
    walk_at "gs"
    exact k
def sp_prows (CP : Addr) : Sp := fun vs H Q _ => ∃ (p R : Addr) (n : Int) (xs : List V), vs = [.ref p] ∧ ProgAt CP H p R n xs ∧ ∀ L, Fr H L → Q (.ref L) (upd H L (.lst xs))
theorem sc_Program_rows : FnScope ["self"] ["self"] (defScope s_Program_rows) :=
  ⟨rfl, rfl, rfl, by decide +kernel, rfl, by decide +kernel, by decide +kernel⟩
theorem ok_Program_rows {P : Program} {w : World} {K : PySem.W.Frag} {mg : Str → Option Value} {base : Heap} (T : Txt w K mg) :
    FnG P w K mg base 1 T.a_Program_rows T.d_Program_rows ["self"] (sp_prows T.c_Program) := by
  refine okD T.F_Program_rows sc_Program_rows (fun vs H Q E h => ?_) (fun cdv A outer s H vs Q E hr h => ?_)
  · first
      | (obtain ⟨_, rfl, _⟩ := h; rfl)
      | (obtain ⟨_, _, rfl, _⟩ := h; rfl)
      | (obtain ⟨_, _, _, rfl, _⟩ := h; rfl)
      | (obtain ⟨_, _, _, _, rfl, _⟩ := h; rfl)
      | (obtain ⟨_, _, _, _, _, rfl, _⟩ := h; rfl)
      | (obtain ⟨_, _, _, _, _, _, rfl, _⟩ := h; rfl)
      | (obtain ⟨_, _, _, _, _, _, _, rfl, _⟩ := h; rfl)
      | (obtain ⟨_, _, _, _, _, _, _, _, rfl, _⟩ := h; rfl)
      | (obtain ⟨_, _, _, _, _, _, _, _, _, rfl, _⟩ := h; rfl)
      | (obtain ⟨_, _, _, _, _, _, _, _, _, _, rfl, _⟩ := h; rfl)
      | (obtain ⟨_, _, _, _, _, _, _, _, _, _, _, rfl, _⟩ := h; rfl)
      | (obtain ⟨_, _, _, _, _, _, _, _, _, _, _, _, rfl, _⟩ := h; rfl)
      | (obtain ⟨_, _, _, _, _, _, _, _, _, _, _, _, _, rfl, _⟩ := h; rfl)
      | (obtain ⟨_, _, _, _, _, _, _, _, _, _, _, _, _, _, rfl, _⟩ := h; rfl)
      | (obtain ⟨_, _, _, _, _, _, _, _, _, _, _, _, _, _, _, rfl, _⟩ := h; rfl)
      | (obtain ⟨_, _, _, _, _, _, _, _, _, _, _, _, _, _, _, _, rfl, _⟩ := h; rfl)
      | (obtain ⟨_, _, _, _, _, _, _, _, _, _, _, _, _, _, _, _, _, rfl, _⟩ := h; rfl)
      | (obtain ⟨_, _, _, _, _, _, _, _, _, _, _, _, _, _, _, _, _, _, rfl, _⟩ := h; rfl)
      | (obtain ⟨_, _, _, _, _, _, _, _, _, _, _, _, _, _, _, _, _, _, _, rfl, _⟩ := h; rfl)
  · obtain ⟨p, R, n, xs, rfl, ⟨dx, hp, hR⟩, k⟩ := h
    have cl_Program := T.cl_Program
    have na_Program_own_rows := T.na_Program_own_rows
    have na_Program_own_size := T.na_Program_own_size
    refine ⟨_, (pss_one (ps_ret (pe_callTy (k_list (K := K) rfl) (by rfl) T.n_list (by decide +kernel) (pa_cons (k_fld (K := K) rfl (pv 0) rfl) pa_nil)))), ?_⟩
    dsimp only [cxOf, st_1, st_2, st_3, st_4, st_5, st_6, List.length_cons, List.length_nil, List.replicate_succ, List.replicate_zero, Nat.reduceAdd, Nat.reduceSub]
    walk_at "gs"
    exact i_new fun L fL => k L fL
def sp_plen (CP : Addr) : Sp := fun vs H Q _ => ∃ (p R : Addr) (n : Int) (xs : List V), vs = [.ref p] ∧ ProgAt CP H p R n xs ∧ Q (.int xs.length) H
theorem sc_Program_len : FnScope ["self"] ["self"] (defScope s_Program_len) :=
  ⟨rfl, rfl, rfl, by decide +kernel, rfl, by decide +kernel, by decide +kernel⟩
theorem ok_Program_len {P : Program} {w : World} {K : PySem.W.Frag} {mg : Str → Option Value} {base : Heap} (T : Txt w K mg) :
    FnG P w K mg base 1 T.a_Program_len T.d_Program_len ["self"] (sp_plen T.c_Program) := by
  refine okD T.F_Program_len sc_Program_len (fun vs H Q E h => ?_) (fun cdv A outer s H vs Q E hr h => ?_)
  · first
      | (obtain ⟨_, rfl, _⟩ := h; rfl)
      | (obtain ⟨_, _, rfl, _⟩ := h; rfl)
      | (obtain ⟨_, _, _, rfl, _⟩ := h; rfl)
      | (obtain ⟨_, _, _, _, rfl, _⟩ := h; rfl)
      | (obtain ⟨_, _, _, _, _, rfl, _⟩ := h; rfl)
      | (obtain ⟨_, _, _, _, _, _, rfl, _⟩ := h; rfl)
      | (obtain ⟨_, _, _, _, _, _, _, rfl, _⟩ := h; rfl)
      | (obtain ⟨_, _, _, _, _, _, _, _, rfl, _⟩ := h; rfl)
      | (obtain ⟨_, _, _, _, _, _, _, _, _, rfl, _⟩ := h; rfl)
      | (obtain ⟨_, _, _, _, _, _, _, _, _, _, rfl, _⟩ := h; rfl)
      | (obtain ⟨_, _, _, _, _, _, _, _, _, _, _, rfl, _⟩ := h; rfl)
      | (obtain ⟨_, _, _, _, _, _, _, _, _, _, _, _, rfl, _⟩ := h; rfl)
      | (obtain ⟨_, _, _, _, _, _, _, _, _, _, _, _, _, rfl, _⟩ := h; rfl)
      | (obtain ⟨_, _, _, _, _, _, _, _, _, _, _, _, _, _, rfl, _⟩ := h; rfl)
      | (obtain ⟨_, _, _, _, _, _, _, _, _, _, _, _, _, _, _, rfl, _⟩ := h; rfl)
      | (obtain ⟨_, _, _, _, _, _, _, _, _, _, _, _, _, _, _, _, rfl, _⟩ := h; rfl)
      | (obtain ⟨_, _, _, _, _, _, _, _, _, _, _, _, _, _, _, _, _, rfl, _⟩ := h; rfl)
      | (obtain ⟨_, _, _, _, _, _, _, _, _, _, _, _, _, _, _, _, _, _, rfl, _⟩ := h; rfl)
      | (obtain ⟨_, _, _, _, _, _, _, _, _, _, _, _, _, _, _, _, _, _, _, rfl, _⟩ := h; rfl)
  · obtain ⟨p, R, n, xs, rfl, ⟨dx, hp, hR⟩, k⟩ := h
    have cl_Program := T.cl_Program
    have na_Program_own_rows := T.na_Program_own_rows
    have na_Program_own_size := T.na_Program_own_size
    refine ⟨_, (pss_one (ps_ret (pe_callB (k_len (K := K) rfl) (by rfl) T.n_len (by decide +kernel) (pa_cons (k_fld (K := K) rfl (pv 0) rfl) pa_nil)))), ?_⟩
    dsimp only [cxOf, st_1, st_2, st_3, st_4, st_5, st_6, List.length_cons, List.length_nil, List.replicate_succ, List.replicate_zero, Nat.reduceAdd, Nat.reduceSub]
    walk_at "gs"
    exact k
theorem ty_prog {K : PySem.W.Frag} {C : Addr} {H : Hp} {p R : Addr} {n : Int} {xs : List V} (ic : C8.InsC K C) (h : ProgAt C H p R n xs) : TyX K H (.ref p) (.ref C) := by
  obtain ⟨dx, e, _⟩ := h
  exact .base (.ins e ic.cl ic.ha ic.hn ic.htk ic.hm)
/-- data of a program: its size, its rows -/
def pdat (n : Int) (ds : List PyData) : PyData := .tuple [.int n, .list ds]
def sp_peq (K : PySem.W.Frag) (CP : Addr) : Sp := fun vs H Q _ => ∃ (p R : Addr) (n : Int) (xs : List V) (y : V), vs = [.ref p, y] ∧ ProgAt CP H p R n xs ∧
  ((∃ (p2 R2 : Addr) (n2 : Int) (ys : List V) (ds es : List PyData), y = .ref p2 ∧ ProgAt CP H p2 R2 n2 ys ∧ DpAll K H xs ds ∧ DpAll K H ys es ∧ SeqAt.shaped (pdat n ds) = true ∧ SeqAt.shaped (pdat n2 es) = true ∧ imms ds = true ∧ imms es = true ∧ ∀ H', Kp [] H H' → Q (.bl (PyData.eqv (pdat n ds) (pdat n2 es))) H') ∨
   (∃ t, TyX K H y t ∧ PySem.W.kitOne K t (.ref CP) = some false ∧ Q (.bl false) H))
theorem sc_Program_eq : FnScope ["self", "other"] ["self", "other"] (defScope s_Program_eq) :=
  ⟨rfl, rfl, rfl, by decide +kernel, rfl, by decide +kernel, by decide +kernel⟩
theorem ok_Program_eq {P : Program} {w : World} {K : PySem.W.Frag} {mg : Str → Option Value} {base : Heap} (T : Txt w K mg) :
    FnG P w K mg base 1 T.a_Program_eq T.d_Program_eq ["self", "other"] (sp_peq K T.c_Program) := by
  refine okD T.F_Program_eq sc_Program_eq (fun vs H Q E h => ?_) (fun cdv A outer s H vs Q E hr h => ?_)
  · first
      | (obtain ⟨_, rfl, _⟩ := h; rfl)
      | (obtain ⟨_, _, rfl, _⟩ := h; rfl)
      | (obtain ⟨_, _, _, rfl, _⟩ := h; rfl)
      | (obtain ⟨_, _, _, _, rfl, _⟩ := h; rfl)
      | (obtain ⟨_, _, _, _, _, rfl, _⟩ := h; rfl)
      | (obtain ⟨_, _, _, _, _, _, rfl, _⟩ := h; rfl)
      | (obtain ⟨_, _, _, _, _, _, _, rfl, _⟩ := h; rfl)
      | (obtain ⟨_, _, _, _, _, _, _, _, rfl, _⟩ := h; rfl)
      | (obtain ⟨_, _, _, _, _, _, _, _, _, rfl, _⟩ := h; rfl)
      | (obtain ⟨_, _, _, _, _, _, _, _, _, _, rfl, _⟩ := h; rfl)
      | (obtain ⟨_, _, _, _, _, _, _, _, _, _, _, rfl, _⟩ := h; rfl)
      | (obtain ⟨_, _, _, _, _, _, _, _, _, _, _, _, rfl, _⟩ := h; rfl)
      | (obtain ⟨_, _, _, _, _, _, _, _, _, _, _, _, _, rfl, _⟩ := h; rfl)
      | (obtain ⟨_, _, _, _, _, _, _, _, _, _, _, _, _, _, rfl, _⟩ := h; rfl)
      | (obtain ⟨_, _, _, _, _, _, _, _, _, _, _, _, _, _, _, rfl, _⟩ := h; rfl)
      | (obtain ⟨_, _, _, _, _, _, _, _, _, _, _, _, _, _, _, _, rfl, _⟩ := h; rfl)
      | (obtain ⟨_, _, _, _, _, _, _, _, _, _, _, _, _, _, _, _, _, rfl, _⟩ := h; rfl)
      | (obtain ⟨_, _, _, _, _, _, _, _, _, _, _, _, _, _, _, _, _, _, rfl, _⟩ := h; rfl)
      | (obtain ⟨_, _, _, _, _, _, _, _, _, _, _, _, _, _, _, _, _, _, _, rfl, _⟩ := h; rfl)
  · obtain ⟨p, R, n, xs, y, rfl, P1, hy⟩ := h
    obtain ⟨dx, hp, hR⟩ := id P1
    have cl_Program := T.cl_Program
    have na_Program_own_rows := T.na_Program_own_rows
    have na_Program_own_size := T.na_Program_own_size
    refine ⟨_, (pss_one (ps_ret (pe_and (pe_callB (k_isi (K := K) rfl) (by rfl) T.n_isinstance (by decide +kernel) (pa_cons (pv 1) (pa_cons (pe_glob (v := .ref T.c_Program) rfl T.mg_Program rfl) pa_nil))) (pe_one (pe_cmpR (k_eq (K := K) rfl hr.r.units) (pe_tup (pa_cons (k_fld (K := K) rfl (pv 0) rfl) (pa_cons (k_fld (K := K) rfl (pv 0) rfl) pa_nil))) (pe_tup (pa_cons (k_fld (K := K) rfl (pv 1) rfl) (pa_cons (k_fld (K := K) rfl (pv 1) rfl) pa_nil))) (nomark _)))))), ?_⟩
    dsimp only [cxOf, st_1, st_2, st_3, st_4, st_5, st_6, List.length_cons, List.length_nil, List.replicate_succ, List.replicate_zero, Nat.reduceAdd, Nat.reduceSub]
    walk_at "gs"
    rcases hy with ⟨p2, R2, n2, ys, ds, es, rfl, P2, dd, de, sd, se, im, im2, k⟩ | ⟨t, ty, no, k⟩
    · refine ⟨_, _, _, _, _, rfl, .own _, ty_prog T.ic_Program P2, T.ic_Program.me, ?_⟩
      obtain ⟨dx2, hp2, hR2⟩ := id P2
      walk_at "gs"
      refine i_new fun t1 f1 => ?_
      walk_at "gs"
      refine i_new fun t2 f2 => ?_
      have k1 : Kp [] H (upd H t1 (.tup [V.int n, V.ref R])) := Kp.new f1
      have k2 : Kp [] (upd H t1 (.tup [V.int n, V.ref R])) (upd (upd H t1 (.tup [V.int n, V.ref R])) t2 (.tup [V.int n2, V.ref R2])) := Kp.new f2
      have h1 : SqT K (upd (upd H t1 (.tup [V.int n, V.ref R])) t2 (.tup [V.int n2, V.ref R2])) t1 [V.int n, V.ref R] := k2.seqT (SqT.of upd_same)
      have h2 : SqT K (upd (upd H t1 (.tup [V.int n, V.ref R])) t2 (.tup [V.int n2, V.ref R2])) t2 [V.int n2, V.ref R2] := SqT.of upd_same
      have k02 := Kp.trans k1 k2
      obtain ⟨H2, e2⟩ : ∃ H2, H2 = upd (upd H t1 (.tup [V.int n, V.ref R])) t2 (.tup [V.int n2, V.ref R2]) := ⟨_, rfl⟩
      rw [← e2] at h1 h2 k02 ⊢
      walk_at "gs"
      refine i_eqD (d := pdat n ds) (e := pdat n2 es) (.tup h1 (.cons (.int _) (.cons (.lst (SqL.of (k02.at_ _ _ hR not_nil)) (dpa_imm k02 _ _ im dd)) .nil))) (.tup h2 (.cons (.int _) (.cons (.lst (SqL.of (k02.at_ _ _ hR2 not_nil)) (dpa_imm k02 _ _ im2 de)) .nil))) sd se ?_
      exact k H2 k02
    · refine ⟨_, _, _, _, _, rfl, .own _, ty, no, ?_⟩
      walk_at "gs"
      exact k

/-! ### texts: str(x), methods -/
theorem k_strAny {X : Cx} {K : PySem.W.Frag} (h : X.K = K) : CallR X (.type "str") (fun xs H Q => (∃ i, xs = [.int i] ∧ i.natAbs.log2 < 1920 ∧ Q (.str (toString i)) H) ∨ ∃ a, xs = [.str a] ∧ Q (.str a) H) := by
  intro pins s σ H xs us Q I r q
  rcases q with q | q
  · exact call_str_int pins s σ H xs us Q I r q
  · exact SkE.call_str_str pins s σ H xs us Q I r q
/-! ### a comprehension over a text's signs -/
section
variable {σ : L2.St} {H H1 : Hp} {Q : VK} {g : TG} {tt : TT} {te : TE} {vs : List Nat}
def LcS (x : V) (g : TG) (tt : TT) (te : TE) (vs : List Nat) (σ : L2.St) (H1 : Hp) (Q : VK) : Prop :=
  ∃ z, x = .str z ∧ ∀ D, H1 D = none →
    ∃ W : Nat → Nat → Hp → Prop, (∃ m, W 0 m (upd H1 D (.lst []))) ∧ ∀ i m H, W i m H →
      ((Its z).stop i H ∧ Q (.ref D) H) ∨ ((Its z).go i H ∧ ∃ Nx : Hp → Prop,
        (∀ H', Nx H' → ∃ m', m' < m ∧ W (i + 1) m' H') ∧
        ∀ x H', (Its z).yld i H x H' → g x (wipe σ vs) H' fun σ2 H2 => wipe σ2 vs = wipe σ vs ∧ tt σ2 H2 fun b H3 =>
          if b = true then te σ2 H3 fun y H4 => ∃ acc, H4 D = some (.lst acc) ∧ acc.length < sizeLine ∧
            Nx (upd H4 D (.lst (acc ++ [y]))) else Nx H3)
theorem i_lcS {te' : TE} (h : te' σ H fun x H1 => LcS x g tt te vs σ H1 Q) : tLc (iStr te') g tt te vs σ H Q := h
theorem i_mapS {z : Str} (ys : List V) (hl : ys.length = z.cps.size) (hz : ys.length ≤ 1000000)
    (st : ∀ (D : Addr) (i : Nat) (c : Nat) (y : V) (H' : Hp) (Q' : VK), Fr H D → z.cps[i]? = some c → ys[i]? = some y → Kp [] H H' → (∀ H4, Kp [] H' H4 → Q' y H4) →
      g (.str ⟨#[c]⟩) (wipe σ vs) H' fun σ2 H2 => wipe σ2 vs = wipe σ vs ∧ te σ2 H2 Q')
    (hd : ∀ D H', Fr H D → Kp [] H H' → H' D = some (.lst ys) → Q (.ref D) H') : LcS (.str z) g tYes te vs σ H Q := by
  refine ⟨z, rfl, fun D hD => ⟨fun i m H' => m = z.cps.size - i ∧ i ≤ z.cps.size ∧ Kp [] H H' ∧ H' D = some (.lst (ys.take i)), ⟨_, rfl, Nat.zero_le _, Kp.new ⟨hD⟩, by rw [List.take_zero]; exact upd_same⟩, ?_⟩⟩
  rintro i m H' ⟨rfl, hi, k, e⟩
  by_cases c : i < z.cps.size
  · refine .inr ⟨c, fun H2 => Kp [] H H2 ∧ H2 D = some (.lst (ys.take (i + 1))), fun H2 w => ⟨_, by omega, rfl, c, w.1, w.2⟩, ?_⟩
    rintro x H2 ⟨rfl, cc, hc, rfl⟩
    obtain ⟨y, hy⟩ : ∃ y, ys[i]? = some y := ⟨_, List.getElem?_eq_getElem (by omega)⟩
    exact st D i cc y _ (fun y' H4 => ∃ acc, H4 D = some (.lst acc) ∧ acc.length < sizeLine ∧
      (Kp [] H (upd H4 D (.lst (acc ++ [y']))) ∧ upd H4 D (.lst (acc ++ [y'])) D = some (.lst (ys.take (i + 1))))) ⟨hD⟩ hc hy k (fun H4 k4 => by
        refine ⟨_, k4.at_ _ _ e not_nil, small_sz (by rw [List.length_take]; omega), Kp.upd (Kp.trans k k4) ⟨hD⟩, ?_⟩
        rw [List.take_add_one, hy]
        exact upd_same)
  · have e2 : i = z.cps.size := by omega
    rw [e2, ← hl, List.take_of_length_le (Nat.le_refl _)] at e
    exact .inl ⟨Nat.le_of_not_lt c, hd D H' ⟨hD⟩ k e⟩
end
theorem k_bm {X : Cx} {K : PySem.W.Frag} {T id : String} {name : Str} {r : V → List V → Hp → VK → Prop} {o e : Expr} {es : List Expr} {to : TE} {t : TA} {apos cpos : Pos} (h : X.K = K) (pa : PlainAttrs T) (slot : Slot T name id) (hty : typeOf (.builtin id) = pure (.type "method_descriptor")) (hm : MtR X id r) (ho : PE X o to) (ha : PA X (e :: es) t)
    (hbase : attributeBase o name X.env (eval o X.env) = eval o X.env := by rfl)
    (hfew : ((backTo cpos (starEach (e :: es) X.env)).all (fun x => !x.1) && (backToKw cpos (keywordEach [] X.env)).all (fun x => x.1.isSome)
      && decide ((e :: es).length + ([] : List Keyword).length + (if ([] : List Keyword).isEmpty then 0 else 1) < 30)) = true := by rfl)
    (hline : (apos.endLine == cpos.line) = true := by rfl) (hs : starEach (e :: es) X.env = (false, eval e X.env) :: starEach es X.env := by rfl) (hplain : (backTo cpos (starEach es X.env)).any (·.1) = false := by rfl) :
    PE X (.Call (.Attribute o name apos) (e :: es) [] cpos) (tBM K T r to t) := h ▸ pe_bm pa slot hty hm ho ha hbase hfew hline hs hplain
theorem k_join {X : Cx} {K : PySem.W.Frag} (h : X.K = K) : MtR X "str.join" (fun x xs H Q => ∃ a p, ∃ ys : List Str, x = .str a ∧ xs = [.ref p] ∧ (SqL K H p (ys.map V.str) ∨ SqT K H p (ys.map V.str)) ∧
    (ys.map (·.length)).sum + ys.length * a.length ≤ 16777216 ∧ Q (.str (Txt.join a ys)) H) := h ▸ mt_join
theorem flat_ints (ns : List Int) : (ns.map V.int).all flatV = true := by
  induction ns with
  | nil => rfl
  | cons n ns ih =>
    rw [List.map_cons, List.all_cons, ih]
    rfl

/-! ### a new instance -/
theorem i_made {C : Addr} {sp : Sp} {E : XK} {H : Hp} {Q : VK} {vs : Addr → List V}
    (h : ∀ x dx, Fr H x → Fr H dx → dx ≠ x → sp (vs x) (upd (upd H dx (.own x)) x (.ins C dx [])) (fun v H2 => v = .non ∧ Q (.ref x) H2) E) :
    Made C sp E H Q vs := fun x dx hx hd n => h x dx ⟨hx⟩ ⟨hd⟩ n
theorem kp_made {H H3 : Hp} {x dx : Addr} {o1 o2 : HO} (hx : Fr H x) (hd : Fr H dx) (k : Kp [x] (upd (upd H dx o1) x o2) H3) : Kp [] H H3 :=
  Kp.drop (Kp.trans (Kp.wide (Kp.upd (Kp.upd Kp.refl hd) hx)) k) hx

/-! ### comprehensions that change nothing -/
theorem dpa_tail {K : PySem.W.Frag} {H : Hp} : ∀ {ds : List PyData} {vs : List V}, DpAll K H vs ds → DpAll K H vs.tail ds.tail
  | [], _, h => by cases h; exact .nil
  | _ :: _, _, h => by
    cases h with
    | cons _ h2 => exact h2
section
variable {K : PySem.W.Frag} {σ : L2.St} {H : Hp} {Q : VK} {a b : Addr} {xs ys us : List V} {g : TG} {te : TE} {vs : List Nat} {ds : List PyData}
theorem i_mapL (hs : SqL K H a xs) (ys : List V) (hl : ys.length = xs.length) (hz : xs.length ≤ 1000000)
    (st : ∀ (D : Addr) (i : Nat) (x y : V) (H' : Hp) (Q' : VK), Fr H D → xs[i]? = some x → ys[i]? = some y → Kp [] H H' → (∀ H4, Kp [] H' H4 → Q' y H4) →
      g x (wipe σ vs) H' fun σ2 H2 => wipe σ2 vs = wipe σ vs ∧ te σ2 H2 Q')
    (hd : ∀ D H', Fr H D → Kp [] H H' → H' D = some (.lst ys) → Q (.ref D) H') : LcL K (.ref a) g tYes te vs σ H Q := by
  refine i_elts hs (fun D i H' => Kp [] H H' ∧ H' D = some (.lst (ys.take i))) (fun D fD => ⟨Kp.new fD, by rw [List.take_zero]; exact upd_same⟩)
    (fun D i H' _ _ z => z.1.seqL not_nil hs) ?_ ?_
  · rintro D i x H' fD hx ⟨k, e⟩
    have hi := (List.getElem?_eq_some_iff.mp hx).1
    obtain ⟨y, hy⟩ : ∃ y, ys[i]? = some y := ⟨_, List.getElem?_eq_getElem (by omega)⟩
    have q := st D i x y H' (fun y' H4 => ∃ acc, H4 D = some (.lst acc) ∧ acc.length < sizeLine ∧
      (Kp [] H (upd H4 D (.lst (acc ++ [y']))) ∧ upd H4 D (.lst (acc ++ [y'])) D = some (.lst (ys.take (i + 1))))) fD hx hy k (fun H4 k4 => by
        refine ⟨_, k4.at_ _ _ e not_nil, small_sz (by rw [List.length_take]; omega), Kp.upd (Kp.trans k k4) fD, ?_⟩
        rw [List.take_add_one, hy]
        exact upd_same)
    exact q
  · rintro D H' fD ⟨k, e⟩
    rw [List.take_of_length_le (by omega)] at e
    exact hd D H' fD k e
theorem i_mapD (hs : SqL K H a xs) (ds : List PyData) (hi : imms ds = true) (hl : ds.length = xs.length) (hz : xs.length ≤ 1000000)
    (st : ∀ (D : Addr) (i : Nat) (x : V) (d : PyData) (H' : Hp) (Q' : VK), Fr H D → xs[i]? = some x → ds[i]? = some d → Kp [] H H' → (∀ y H4, Kp [] H' H4 → Dp K H4 y d → Q' y H4) →
      g x (wipe σ vs) H' fun σ2 H2 => wipe σ2 vs = wipe σ vs ∧ te σ2 H2 Q')
    (hd : ∀ D H', Fr H D → Kp [] H H' → LD K H' D ds → Q (.ref D) H') : LcL K (.ref a) g tYes te vs σ H Q := by
  have imt : ∀ (l : List PyData) i, imms l = true → imms (l.take i) = true := by
    intro l
    induction l with
    | nil => intro i h; rw [List.take_nil]; rfl
    | cons d l ih =>
      intro i h
      simp only [imms, Bool.and_eq_true] at h
      cases i with
      | zero => rfl
      | succ i =>
        rw [List.take_succ_cons]
        simp only [imms, Bool.and_eq_true]
        exact ⟨h.1, ih i h.2⟩
  have img : ∀ (l : List PyData) (i : Nat) (d : PyData), imms l = true → l[i]? = some d → imm d = true := by
    intro l
    induction l with
    | nil => intro i d _ e; cases e
    | cons d0 l ih =>
      intro i d h e
      simp only [imms, Bool.and_eq_true] at h
      cases i with
      | zero => cases e; exact h.1
      | succ i => exact ih i d h.2 e
  refine i_elts hs (fun D i H' => Kp [] H H' ∧ LD K H' D (ds.take i)) (fun D fD => ⟨Kp.new fD, [], upd_same, by rw [List.take_zero]; exact .nil⟩)
    (fun D i H' _ _ z => z.1.seqL not_nil hs) ?_ ?_
  · rintro D i x H' fD hx ⟨k, ld⟩
    have hi2 := (List.getElem?_eq_some_iff.mp hx).1
    obtain ⟨d, hd2⟩ : ∃ d, ds[i]? = some d := ⟨_, List.getElem?_eq_getElem (by omega)⟩
    have q := st D i x d H' (fun y' H4 => ∃ acc, H4 D = some (.lst acc) ∧ acc.length < sizeLine ∧
      (Kp [] H (upd H4 D (.lst (acc ++ [y']))) ∧ LD K (upd H4 D (.lst (acc ++ [y']))) D (ds.take (i + 1)))) fD hx hd2 k (fun y H4 k4 hy => by
        obtain ⟨acc, e, ha⟩ := ld.kp k4 (imt _ _ hi) not_nil
        have hl2 := dpa_len ha
        rw [List.length_take] at hl2
        refine ⟨acc, e, small_sz (by omega), Kp.upd (Kp.trans k k4) fD, ?_⟩
        rw [List.take_add_one, hd2]
        exact ld_app ha e (imt _ _ hi) hy (img _ _ _ hi hd2))
    exact q
  · rintro D H' fD ⟨k, ld⟩
    rw [List.take_of_length_le (by omega)] at ld
    exact hd D H' fD k ld
theorem i_mapZ (hx : SqL K H a xs) (hy : SqL K H b us) (ys : List V) (hl : ys.length = min xs.length us.length) (hz : ys.length ≤ 1000000)
    (st : ∀ (D : Addr) (i : Nat) (x u y : V) (T : Addr) (H' : Hp) (Q' : VK), Fr H D → xs[i]? = some x → us[i]? = some u → ys[i]? = some y → Kp [] H H' → Fr H' T → (∀ H4, Kp [] H' H4 → Q' y H4) →
      g (.ref T) (wipe σ vs) (upd H' T (.tup [x, u])) fun σ2 H2 => wipe σ2 vs = wipe σ vs ∧ te σ2 H2 Q')
    (hd : ∀ D H', Fr H D → Kp [] H H' → H' D = some (.lst ys) → Q (.ref D) H') : LcZ K [.ref a, .ref b] g tYes te vs σ H Q := by
  refine i_eltz hx hy (fun D i H' => Kp [] H H' ∧ H' D = some (.lst (ys.take i))) (fun D fD => ⟨Kp.new fD, by rw [List.take_zero]; exact upd_same⟩)
    (fun D i H' _ z => ⟨z.1.seqL not_nil hx, z.1.seqL not_nil hy⟩) ?_ ?_
  · rintro D i x u T H' fD hx2 hu ⟨k, e⟩ fT
    have h1 := (List.getElem?_eq_some_iff.mp hx2).1
    have h2 := (List.getElem?_eq_some_iff.mp hu).1
    obtain ⟨y, hy⟩ : ∃ y, ys[i]? = some y := ⟨_, List.getElem?_eq_getElem (by omega)⟩
    have q := st D i x u y T H' (fun y' H4 => ∃ acc, H4 D = some (.lst acc) ∧ acc.length < sizeLine ∧
      (Kp [] H (upd H4 D (.lst (acc ++ [y']))) ∧ upd H4 D (.lst (acc ++ [y'])) D = some (.lst (ys.take (i + 1))))) fD hx2 hu hy k fT (fun H4 k4 => by
        refine ⟨_, k4.at_ _ _ e not_nil, small_sz (by rw [List.length_take]; omega), Kp.upd (Kp.trans k k4) fD, ?_⟩
        rw [List.take_add_one, hy]
        exact upd_same)
    exact q
  · rintro D H' fD ⟨k, e⟩
    rw [List.take_of_length_le (by omega)] at e
    exact hd D H' fD k e
end

/-! ### comprehensions over a tuple -/
section
variable {K : PySem.W.Frag} {σ : L2.St} {H H1 : Hp} {Q : VK} {a : Addr} {xs : List V} {g : TG} {tt : TT} {te : TE} {vs : List Nat}
def LcT (K : PySem.W.Frag) (x : V) (g : TG) (tt : TT) (te : TE) (vs : List Nat) (σ : L2.St) (H1 : Hp) (Q : VK) : Prop :=
  ∃ a, x = .ref a ∧ (∃ xs, SqT K H1 a xs) ∧ ∀ D, H1 D = none →
    ∃ W : Nat → Nat → Hp → Prop, (∃ m, W 0 m (upd H1 D (.lst []))) ∧ ∀ i m H, W i m H →
      ((Itt K a).stop i H ∧ Q (.ref D) H) ∨ ((Itt K a).go i H ∧ ∃ Nx : Hp → Prop,
        (∀ H', Nx H' → ∃ m', m' < m ∧ W (i + 1) m' H') ∧
        ∀ x H', (Itt K a).yld i H x H' → g x (wipe σ vs) H' fun σ2 H2 => wipe σ2 vs = wipe σ vs ∧ tt σ2 H2 fun b H3 =>
          if b = true then te σ2 H3 fun y H4 => ∃ acc, H4 D = some (.lst acc) ∧ acc.length < sizeLine ∧
            Nx (upd H4 D (.lst (acc ++ [y]))) else Nx H3)
theorem i_lcT {te' : TE} (h : te' σ H fun x H1 => LcT K x g tt te vs σ H1 Q) : tLc (iTup K te') g tt te vs σ H Q := h
theorem i_eltT (hs : SqT K H a xs) (Pv : Addr → Nat → Hp → Prop)
    (h0 : ∀ D, Fr H D → Pv D 0 (upd H D (.lst [])))
    (hl : ∀ D i H', Fr H D → i ≤ xs.length → Pv D i H' → SqT K H' a xs)
    (st : ∀ D i x H', Fr H D → xs[i]? = some x → Pv D i H' → g x (wipe σ vs) H' fun σ2 H2 =>
      wipe σ2 vs = wipe σ vs ∧ tt σ2 H2 fun b H3 => if b = true then te σ2 H3 fun y H4 =>
        ∃ acc, H4 D = some (.lst acc) ∧ acc.length < sizeLine ∧ Pv D (i + 1) (upd H4 D (.lst (acc ++ [y])))
        else Pv D (i + 1) H3)
    (hd : ∀ D H', Fr H D → Pv D xs.length H' → Q (.ref D) H') : LcT K (.ref a) g tt te vs σ H Q := by
  refine ⟨a, rfl, ⟨_, hs⟩, fun D hD => ?_⟩
  exact lc_tup (K := K) (a := a) (xs := xs) (Pv D) (h0 D ⟨hD⟩) (fun i H' => hl D i H' ⟨hD⟩)
    (fun i x H' => st D i x H' ⟨hD⟩) (fun H' => hd D H' ⟨hD⟩)
theorem i_mapT (hs : SqT K H a xs) (ys : List V) (hl : ys.length = xs.length) (hz : xs.length ≤ 1000000)
    (st : ∀ (D : Addr) (i : Nat) (x y : V) (H' : Hp) (Q' : VK), Fr H D → xs[i]? = some x → ys[i]? = some y → Kp [] H H' → (∀ H4, Kp [] H' H4 → Q' y H4) →
      g x (wipe σ vs) H' fun σ2 H2 => wipe σ2 vs = wipe σ vs ∧ te σ2 H2 Q')
    (hd : ∀ D H', Fr H D → Kp [] H H' → H' D = some (.lst ys) → Q (.ref D) H') : LcT K (.ref a) g tYes te vs σ H Q := by
  refine i_eltT hs (fun D i H' => Kp [] H H' ∧ H' D = some (.lst (ys.take i))) (fun D fD => ⟨Kp.new fD, by rw [List.take_zero]; exact upd_same⟩)
    (fun D i H' _ _ z => z.1.seqT hs) ?_ ?_
  · rintro D i x H' fD hx ⟨k, e⟩
    have hi := (List.getElem?_eq_some_iff.mp hx).1
    obtain ⟨y, hy⟩ : ∃ y, ys[i]? = some y := ⟨_, List.getElem?_eq_getElem (by omega)⟩
    have q := st D i x y H' (fun y' H4 => ∃ acc, H4 D = some (.lst acc) ∧ acc.length < sizeLine ∧
      (Kp [] H (upd H4 D (.lst (acc ++ [y']))) ∧ upd H4 D (.lst (acc ++ [y'])) D = some (.lst (ys.take (i + 1))))) fD hx hy k (fun H4 k4 => by
        refine ⟨_, k4.at_ _ _ e not_nil, small_sz (by rw [List.length_take]; omega), Kp.upd (Kp.trans k k4) fD, ?_⟩
        rw [List.take_add_one, hy]
        exact upd_same)
    exact q
  · rintro D H' fD ⟨k, e⟩
    rw [List.take_of_length_le (by omega)] at e
    exact hd D H' fD k e
end

/-! ### programs made: what laws need of it (lines of k71's pieces) -/
theorem Tg.de {K : PySem.W.Frag} {H : Hp} {ws : List Addr} {v : V} {d : PyData} (t : Tg K H ws v d) : De K H v d := by
  rcases t with t | ⟨rfl, a, rfl, h, _⟩
  · exact Dp.de _ _ (t.dp _ _)
  · exact .emp h
/-- what may be shown, and compared where it is a tuple -/
def Fn (d : PyData) : Prop := shwE d = true ∧ d.depth ≤ 3 ∧ cwE d ≤ 50000 ∧ ∀ es, d = .tuple es → SeqAt.shaped d = true ∧ es.length ≤ 1000 ∧ ∀ e ∈ es, ∀ n, e = .int n → okN n
def SmallI (n : Nat) (d : PyData) : Prop := shwE d = true ∧ d.depth ≤ n ∧ cwE d ≤ 2000 + 8000 * n ∧ d.canLay0 = true ∧ ∀ n, d = .int n → okN n
section
variable {K : PySem.W.Frag} {H : Hp} {ws : List Addr} {n : Nat} {vs : List V} {ds : List PyData}
theorem sm_all (h : ∀ e ∈ ds, SmallI n e) : shwsE ds = true ∧ PyData.depthAll ds ≤ n ∧ cwsE ds ≤ (2002 + 8000 * n) * ds.length ∧ PyData.canLayAll0 ds = true := by
  induction ds with
  | nil => exact ⟨rfl, Nat.zero_le _, Nat.le_refl _, rfl⟩
  | cons d ds ih =>
    obtain ⟨a, b, c, e⟩ := ih fun x hx => h x (List.mem_cons_of_mem _ hx)
    obtain ⟨i1, i2, i3, i4, _⟩ := h d List.mem_cons_self
    refine ⟨by simp only [shwsE, i1, a, Bool.and_self], by simp only [PyData.depthAll]; omega, ?_, by simp only [PyData.canLayAll0, i4, e, Bool.and_self]⟩
    simp only [cwsE, List.length_cons]
    rw [Nat.mul_add, Nat.mul_one]
    omega
theorem si_int {i : Int} (h0 : -1000000000000000000000000000000000000000000000000000000000000 ≤ i) (h1 : i ≤ 1000000000000000000000000000000000000000000000000000000000000) : SmallI n (.int i) :=
  ⟨decide_eq_true (okI_of (by omega) (by omega)), by simp only [PyData.depth]; omega, by simp only [cwE]; omega, rfl, fun j e => by cases e; exact ⟨h0, h1⟩⟩
theorem si_str {s : Str} (a : (s.cps.toList.all fun c => decide (c < 16 ^ 8)) = true) (b : (PyData.strOk s && decide (10 * s.length + 4 ≤ 2000)) = true) : SmallI n (.str s) := by
  obtain ⟨b1, b2⟩ := Bool.and_eq_true_iff.mp b
  have b2 := of_decide_eq_true b2
  exact ⟨a, by simp only [PyData.depth]; omega, by simp only [cwE]; omega, b1, fun j e => nomatch e⟩
theorem fn_seq {es : List PyData} (h : ∀ e ∈ es, SmallI 1 e) (l : es.length ≤ 4) : Fn (.list es) ∧ Fn (.tuple es) := by
  obtain ⟨a, b, c, d⟩ := sm_all h
  have := Nat.mul_le_mul_left (2002 + 8000 * 1) l
  refine ⟨⟨by simp only [shwE]; exact a, by simp only [PyData.depth]; omega, by simp only [cwE]; omega, fun es e => nomatch e⟩, ⟨by simp only [shwE]; exact a, by simp only [PyData.depth]; omega, by simp only [cwE]; omega, fun fs e => ?_⟩⟩
  cases e
  exact ⟨shaped_of (by simp only [PyData.canLay0]; exact d) (by simp only [PyData.depth]; omega), by omega, fun e he => (h e he).2.2.2.2⟩
end
mutual
theorem De.kp {K : PySem.W.Frag} {H H' : Hp} (k : Kp [] H H') : ∀ (d : PyData) (v : V), De K H v d → De K H' v d
  | .none, _, h => by cases h; exact .non
  | .bool b, _, h => by cases h; exact .bl b
  | .int i, _, h => by cases h; exact .int i
  | .str x, _, h => by cases h; exact .str x
  | .list ds, _, h => by
    cases h with
    | lst hs ha => exact .lst (k.seqL not_nil hs) (DeAll.kp k ds _ ha)
  | .tuple ds, _, h => by
    cases h with
    | tup hs ha => exact .tup (k.seqT hs) (DeAll.kp k ds _ ha)
  | .dict _, _, h => by
    cases h with
    | emp h => exact .emp (k.at_ _ _ h not_nil)
theorem DeAll.kp {K : PySem.W.Frag} {H H' : Hp} (k : Kp [] H H') : ∀ (ds : List PyData) (vs : List V), DeAll K H vs ds → DeAll K H' vs ds
  | [], _, h => by cases h; exact .nil
  | d :: ds, _, h => by
    cases h with
    | cons h1 h2 => exact .cons (De.kp k d _ h1) (DeAll.kp k ds _ h2)
end
theorem De.any {K : PySem.W.Frag} {H : Hp} {v : V} {d : PyData} (h : De K H v d) : Any K H v d := by
  refine ⟨?_, fun n e => ?_⟩
  · cases h with
    | non => exact .base .non
    | bl b => exact .base (.bl b)
    | int i => exact .base (.int i)
    | str x => exact .base (.str x)
    | lst hs _ =>
      rcases hs with (h | ⟨o, h⟩) | ⟨o, its, k, e, c, r⟩
      · exact .base (.lst h)
      · exact .base (.frz h)
      · exact .kList e c
    | tup hs _ =>
      rcases hs with (h | ⟨o, h⟩) | ⟨o, its, k, e, c, r⟩
      · exact .base (.tup h)
      · exact .fTuple h
      · exact .kTuple e c
    | emp h => exact .base (.dK h)
  · subst e
    cases h
    rfl
/-- a program made, of a size and rows that fit -/
theorem mk_prog {K : PySem.W.Frag} {CP XS XP : Addr} {E : XK} {H : Hp} {Q : VK} {n : Int} {R0 : Addr} {xs : List V} {ds : List PyData} (hR : H R0 = some (.lst xs)) (rv : RowsV K H [] xs ds) (l : xs.length ≤ 1000) (w : whD (.int n) 1 1000000000000000000 = true) (b : badAt ds n = none)
    (k : ∀ p R H', Fr H p → Fr H R → p ≠ R → Kp [] H H' → ProgAt CP H' p R n xs → Q (.ref p) H') : Made CP (sp_pinit K CP XS XP) E H Q fun x => [.ref x, .int n, .ref R0] := by
  refine i_made fun p dd fp fd ne => ?_
  have k1 : Kp [] H (upd H dd (.own p)) := Kp.new fd
  have k0 : Kp [] H (upd (upd H dd (.own p)) p (.ins CP dd [])) := Kp.upd k1 fp
  refine ⟨p, dd, .int n, .ref R0, .int n, rfl, upd_same, Any.int n, fun e => (by rw [w] at e; cases e), fun m em _ => ?_⟩
  cases em
  refine .inr ⟨R0, xs, ds, rfl, k0.at_ _ _ hR not_nil, rv.kp k0, l, fun i bi => (by rw [b] at bi; cases bi), fun _ R H' fR kk hp hR' => ⟨rfl, k p R H' fp (k0.free fR) ?_ (kp_made fp fd kk) ⟨dd, hp, hR'⟩⟩⟩
  intro e
  have := fR.e
  rw [← e, upd_same] at this
  cases this
theorem deAll_of {K : PySem.W.Frag} {H : Hp} : ∀ (xs : List V) (ds : List PyData), xs.length = ds.length → (∀ (i : Nat) x, xs[i]? = some x → ∃ d, ds[i]? = some d ∧ De K H x d) → DeAll K H xs ds
  | [], [], _, _ => .nil
  | [], _ :: _, e, _ => nomatch e
  | _ :: _, [], e, _ => nomatch e
  | x :: xs, d :: ds, e, h => by
    obtain ⟨d', e1, hd⟩ := h 0 x rfl
    cases e1
    exact .cons hd (deAll_of xs ds (Nat.succ.inj e) fun i y hy => h (i + 1) y hy)
theorem RowsV.de {K : PySem.W.Frag} {H : Hp} {ws : List Addr} {xs : List V} {ds : List PyData} (h : RowsV K H ws xs ds) : DeAll K H xs ds := deAll_of xs ds h.1 fun i x hx => let ⟨d, a, b, _⟩ := h.2 i x hx; ⟨d, a, b.de⟩
theorem lim_mono {s : Str} {size many size' many' : Int} (a : size ≤ size') (b : many ≤ many') : limS s size many ≤ limS s size' many' := by
  unfold limS
  split
  · exact a
  · split <;> omega
theorem fitS_mono {s : Str} {d : PyData} {size many size' many' : Int} (a : size ≤ size') (b : many ≤ many') (h : fitS s d size many = true) : fitS s d size' many' = true := by
  cases d with
  | int n =>
    simp only [fitS] at h ⊢
    by_cases c : s = "n"
    · rw [if_pos c]
    · rw [if_neg c] at h ⊢
      have := of_decide_eq_true h
      have := lim_mono (s := s) a b
      exact decide_eq_true ⟨by omega, by omega⟩
  | _ => cases h
theorem rowOk_mono {d : PyData} {size many size' many' : Int} (a : size ≤ size') (b : many ≤ many') (h : rowOk d size many = true) : rowOk d size' many' = true := by
  unfold rowOk at h ⊢
  split at h
  · rename_i z ds
    try dsimp only
    split at h
    · rename_i s e
      try rw [e]
      try dsimp only
      unfold rowTail at h ⊢
      simp only [Bool.and_eq_true] at h ⊢
      refine ⟨h.1, ?_, h.2.2⟩
      unfold fitAll at h ⊢
      rw [List.all_eq_true] at h ⊢
      exact fun q hq => fitS_mono a b (h.2.1 q hq)
    · cases h
  · cases h
theorem bad_none {ds : List PyData} {n : Int} (h : ∀ d ∈ ds, rowOk d n ds.length = true) : badAt ds n = none :=
  badAt_none fun j hj d hd => by rw [h d (List.mem_of_getElem? hd)]; rfl
theorem key_small {w : Str} (h : w ∈ kv_SHAPES.map (·.1)) : (w.cps.toList.all fun c => decide (c < 16 ^ 8)) = true ∧ (PyData.strOk w && decide (10 * w.length + 4 ≤ 2000)) = true := by
  have all : ∀ w ∈ kv_SHAPES.map (·.1), (w.cps.toList.all fun c => decide (c < 16 ^ 8)) = true ∧ (PyData.strOk w && decide (10 * w.length + 4 ≤ 2000)) = true := by decide +kernel
  exact all w h
theorem Row.small {size many : Int} {d : PyData} (r : Row size many d) : ∃ es, d = .tuple es ∧ (∀ e ∈ es, SmallI 1 e) ∧ es.length ≤ 4 := by
  obtain ⟨w, es, rfl, hw, l, _, o⟩ := r
  refine ⟨_, rfl, fun e he => ?_, by rw [List.length_cons]; omega⟩
  rcases List.mem_cons.mp he with rfl | he
  · exact si_str (key_small hw).1 (key_small hw).2
  · obtain ⟨n, rfl, n1, n2⟩ := o e he
    exact si_int n1 n2
theorem Row.fn {size many : Int} {d : PyData} (r : Row size many d) : Fn d := by
  obtain ⟨es, rfl, s, l⟩ := r.small
  exact (fn_seq s l).2
theorem Row.lay {size many : Int} {d : PyData} (r : Row size many d) : d.canLay0 = true ∧ d.depth ≤ 3 := by
  obtain ⟨es, rfl, s, l⟩ := r.small
  obtain ⟨_, b, _, d⟩ := sm_all s
  exact ⟨by simp only [PyData.canLay0]; exact d, by simp only [PyData.depth]; omega⟩
theorem rows_lay {size many : Int} : ∀ {ds : List PyData}, (∀ d ∈ ds, Row size many d) → PyData.canLayAll0 ds = true ∧ PyData.depthAll ds ≤ 3
  | [], _ => ⟨rfl, Nat.zero_le _⟩
  | d :: ds, h => by
    obtain ⟨a, b⟩ := rows_lay fun x hx => h x (List.mem_cons_of_mem _ hx)
    obtain ⟨c, e⟩ := (h d List.mem_cons_self).lay
    exact ⟨by simp only [PyData.canLayAll0, c, a, Bool.and_self], by simp only [PyData.depthAll]; omega⟩
theorem fn_all : ∀ {ds : List PyData}, (∀ d ∈ ds, Fn d) → shwsE ds = true ∧ PyData.depthAll ds ≤ 3 ∧ cwsE ds ≤ 50002 * ds.length
  | [], _ => ⟨rfl, Nat.zero_le _, Nat.le_refl _⟩
  | d :: ds, h => by
    obtain ⟨a, b, c⟩ := fn_all fun e he => h e (List.mem_cons_of_mem _ he)
    obtain ⟨i1, i2, i3, _⟩ := h d List.mem_cons_self
    exact ⟨by simp only [shwsE, i1, a, Bool.and_self], by simp only [PyData.depthAll]; omega, by simp only [cwsE, List.length_cons]; omega⟩
theorem pdat_ok {size many n : Int} {ds : List PyData} (h : ∀ d ∈ ds, Row size many d) : SeqAt.shaped (pdat n ds) = true ∧ (pdat n ds).canLay0 = true := by
  obtain ⟨a, b⟩ := rows_lay h
  have e : (pdat n ds).canLay0 = true := by
    simp only [pdat, PyData.canLay0, PyData.canLayAll0, a, Bool.and_self]
  exact ⟨shaped_of e (by simp only [pdat, PyData.depth, PyData.depthAll]; omega), e⟩
theorem rowsV_of {K : PySem.W.Frag} {H : Hp} {xs : List V} {ds : List PyData} {size many : Int} (h : DpAll K H xs ds) (r : ∀ d ∈ ds, Row size many d) : RowsV K H [] xs ds := by
  refine ⟨dpa_len h, fun i x hx => ?_⟩
  obtain ⟨d, hd, hx⟩ := dpa_getV h hx
  have rd := r d (List.mem_of_getElem? hd)
  refine ⟨d, hd, .inl (dx_imm d x rd.imm hx), fun es e => ?_⟩
  obtain ⟨a, b, _⟩ := rd.fn.2.2.2 es e
  exact ⟨a, b⟩
theorem eqvAll_len : ∀ {ds es : List PyData}, ds.length ≠ es.length → PyData.eqvAll ds es = false
  | [], [], h => absurd rfl h
  | [], _ :: _, _ => rfl
  | _ :: _, [], _ => rfl
  | d :: ds, e :: es, h => by
    simp only [PyData.eqvAll]
    rw [eqvAll_len (ds := ds) (es := es) fun z => h (by rw [List.length_cons, List.length_cons, z]), Bool.and_false]
theorem eqv_pdat_len {n m : Int} {ds es : List PyData} (h : ds.length ≠ es.length) : PyData.eqv (pdat n ds) (pdat m es) = false := by
  simp only [pdat, PyData.eqv, PyData.eqvAll]
  rw [eqvAll_len h]
  simp
theorem eqv_pdat_int {n m : Int} {ds es : List PyData} (h : n ≠ m) : PyData.eqv (pdat n ds) (pdat m es) = false := by
  simp only [pdat, PyData.eqv, PyData.eqvAll]
  have e : (n == m) = false := beq_eq_false_iff_ne.mpr h
  rw [e]
  rfl
theorem nf_tie {K : PySem.W.Frag} {C : Addr} : PySem.W.notFirst K C (.ref C) = true := by
  unfold PySem.W.notFirst
  simp
theorem nf_ty {K : PySem.W.Frag} {C : Addr} : ∀ n ∈ tyNames, PySem.W.notFirst K C (.type n) = true := by
  intro n hn
  simp only [tyNames, List.mem_cons, List.not_mem_nil, or_false] at hn
  rcases hn with rfl | rfl | rfl | rfl | rfl | rfl | rfl <;> kernel_rfl
theorem i_notB {H : Hp} {Q : VK} {a b : Bool} (q : Q (.bl (!decide (a = b))) H) : rNotB (.bl a) (.bl b) H Q := ⟨a, b, rfl, rfl, q⟩
theorem i_isB {H : Hp} {Q : VK} {a b : Bool} (q : Q (.bl (decide (a = b))) H) : rIsB (.bl a) (.bl b) H Q := ⟨a, b, rfl, rfl, q⟩
theorem all_rep (n : Nat) : (List.replicate n true).all id = true := by simp
theorem Row.mono {size many size' many' : Int} {d : PyData} (r : Row size many d) (a : size ≤ size') (b : many ≤ many') : Row size' many' d := by
  obtain ⟨w, es, e, hw, l, ok, o⟩ := r
  exact ⟨w, es, e, hw, l, rowOk_mono a b ok, o⟩
theorem rows_repr {K : PySem.W.Frag} {H : Hp} {Q : VK} {M : Addr} {xs : List V} {ds : List PyData} {size many : Int} (hM : H M = some (.lst xs)) (da : DpAll K H xs ds) (r : ∀ d ∈ ds, Row size many d) (l : ds.length ≤ 12) (q : Q (.str (PyData.list ds).shown) H) : rReprE K [.ref M] H Q := by
  obtain ⟨a, b, c⟩ := fn_all fun d hd => (r d hd).fn
  have big : (700000 : Nat) ≤ sizeLine := by decide
  exact i_reprE (.lst (SqL.of hM) (DpAll.de _ _ da)) (by simp only [shwE]; exact a) (by simp only [PyData.depth]; omega) (by simp only [cwE]; omega) q
theorem i_neSame {α : Type} {a : α} {d : Decidable (a = a)} {p q : Prop} {e : Decidable ((!@decide (a = a) d) = true)} (h : q) : @ite Prop ((!@decide (a = a) d) = true) e p q := by
  rw [if_neg (by rw [decide_eq_true rfl]; exact Bool.false_ne_true)]
  exact h
instance red_neSame {α : Type} {a : α} {d : Decidable (a = a)} {p q : Prop} {e : Decidable ((!@decide (a = a) d) = true)} : Red (@ite Prop ((!@decide (a = a) d) = true) e p q) q := ⟨i_neSame⟩
theorem k_tupOf {X : Cx} {K : PySem.W.Frag} (h : X.K = K) : CallR X (.type "tuple") (fun xs H Q => ∃ p ys, xs = [.ref p] ∧ ((SqL K H p ys ∧ ∀ l, H l = none → Q (.ref l) (upd H l (.tup ys))) ∨ (SqT K H p ys ∧ Q (.ref p) H))) := h ▸ call_tuple_of

/-! ### the texts of programs -/
def numT (n : Int) : Str := Str.ofString (toString n)
theorem tl_numT (n : Int) : TL.tl (numT n) = if n < 0 then 45 :: TL.numL n.natAbs else TL.numL n.natAbs := by
  cases n with
  | ofNat m =>
    rw [if_neg (by simp)]
    exact TL.tl_num m
  | negSucc m =>
    rw [if_pos (Int.negSucc_lt_zero m)]
    have e : toString (Int.negSucc m) = "-" ++ toString ((m + 1 : Nat) : Int) := rfl
    unfold numT
    rw [e, TL.tl_ofString, String.toList_append, List.map_append]
    have e2 : (toString ((m + 1 : Nat) : Int)).toList.map Char.toNat = TL.numL (m + 1) := by
      rw [← TL.tl_ofString]
      exact TL.tl_num (m + 1)
    rw [e2]
    rfl
theorem numT_len {n : Int} (h : okN n) : (numT n).length ≤ 62 := by
  have h2 : n.natAbs < 10 ^ 61 := by
    have := h.1
    have := h.2
    have e : (10 : Nat) ^ 61 = 10000000000000000000000000000000000000000000000000000000000000 := by decide
    rw [e]
    omega
  have := int_text_length_le10 (a := n) (k := 61) (by decide) h2
  unfold numT
  rw [PySem.ofString_length]
  exact this
theorem natAbs_ok {n : Int} (h : okN n) : okN (n.natAbs : Int) := by
  have := h.1
  have := h.2
  exact ⟨by omega, by omega⟩
theorem tl_natT (m : Nat) : TL.tl (numT (m : Int)) = TL.numL m := TL.tl_num m
theorem numT_free {n : Int} {s : Nat} (h : s ≠ 45 ∧ (s < 48 ∨ 57 < s)) : s ∉ TL.tl (numT n) := by
  rw [tl_numT]
  split
  · intro z
    rcases List.mem_cons.mp z with z | z
    · exact h.1 z
    · exact TL.numL_free h.2 z
  · exact TL.numL_free h.2
/-- a number's text without its sign -/
theorem numT_bare (n : Int) : Txt.removeprefix (numT n) "-" = numT (n.natAbs : Int) := by
  have ey : TL.tl (Str.ofString "-") = [45] := by decide +kernel
  have ly : (Str.ofString "-").length = 1 := by decide +kernel
  refine TL.ext_tl ?_
  rw [tl_natT, PySem.StrLaws.removeprefix_eq]
  have sub : (decide (0 + (Str.ofString "-").length ≤ (numT n).length) && PySem.Builtin.Str.subAt (numT n) (Str.ofString "-") 0) = decide (TL.pre [45] (TL.tl (numT n)) = true) := by
    have iff := TL.at_iff (x := numT n) (y := Str.ofString "-") (by rw [ey]; simp) 0
    rw [ey, List.drop_zero] at iff
    by_cases c : TL.pre [45] (TL.tl (numT n)) = true
    · obtain ⟨a1, a2⟩ := iff.mpr c
      rw [decide_eq_true c, decide_eq_true a1, a2]
      rfl
    · rw [decide_eq_false c]
      refine Bool.eq_false_iff.mpr fun a => c (iff.mp ?_)
      obtain ⟨a1, a2⟩ := Bool.and_eq_true_iff.mp a
      exact ⟨of_decide_eq_true a1, a2⟩
  rw [sub]
  have tn := tl_numT n
  by_cases h : n < 0
  · rw [if_pos h] at tn
    have p : TL.pre [45] (TL.tl (numT n)) = true := by rw [tn]; rfl
    rw [p, decide_eq_true rfl, if_pos rfl]
    show ((numT n).cps.toList.drop (Str.ofString "-").length).take ((numT n).length - (Str.ofString "-").length) = _
    have e : (numT n).cps.toList = 45 :: TL.numL n.natAbs := tn
    have l : (numT n).length = (TL.numL n.natAbs).length + 1 := by
      rw [TL.len_tl, tn]
      rfl
    rw [e, ly, l]
    simp
  · rw [if_neg h] at tn
    have p : TL.pre [45] (TL.tl (numT n)) = false := by
      rw [tn]
      cases e : TL.numL n.natAbs with
      | nil => exact absurd e (TL.numL_ne _)
      | cons c r =>
        have : c ≠ 45 := fun z => TL.numL_free (n := n.natAbs) (s := 45) (.inl (by decide)) (by rw [e, z]; exact List.mem_cons_self)
        exact TL.pre_of_head [] r this
    rw [p]
    simp only [Bool.false_eq_true, decide_false, if_false]
    exact tn
theorem numT_int {n : Int} (h : okN n) : intText? (numT n) = some n := by
  have l := numT_len h
  have tn := tl_numT n
  by_cases c : n < 0
  · rw [if_pos c] at tn
    have := PySem.intText_neg (x := numT n) tn (TL.numL_digits _) (TL.numL_ne _) (by omega)
    rw [this, TL.numL_val]
    congr 1
    omega
  · rw [if_neg c] at tn
    have e : (numT n).cps.toList = TL.numL n.natAbs := tn
    have := PySem.intText_digits (x := numT n) (by rw [e]; exact TL.numL_digits _) (by rw [e]; exact TL.numL_ne _) (by omega)
    rw [this, e, TL.numL_val]
    congr 1
    omega
theorem numT_ne {n : Int} : numT n ≠ Str.ofString "" := by
  intro e
  have tn := tl_numT n
  rw [e] at tn
  have z : TL.tl (Str.ofString "") = [] := by decide +kernel
  rw [z] at tn
  split at tn
  · cases tn
  · exact TL.numL_ne _ tn.symm
theorem numT_zero {n : Int} : numT n ≠ Str.ofString "-0" := by
  intro e
  have tn := tl_numT n
  rw [e] at tn
  have z : TL.tl (Str.ofString "-0") = [45, 48] := by decide +kernel
  rw [z] at tn
  split at tn
  · rename_i c
    injection tn with _ tn
    have : TL.numL n.natAbs = TL.numL 0 := by
      rw [← tn]
      decide +kernel
    have := TL.numL_inj this
    omega
  · exact TL.numL_free (n := n.natAbs) (s := 45) (.inl (by decide)) (by rw [← tn]; exact List.mem_cons_self)
theorem numT_signs {n : Int} {i c : Nat} (h0 : 0 ≤ n) (h : (numT n).cps[i]? = some c) : c ∈ (Str.ofString "0123456789").cps.toList := by
  have tn := tl_numT n
  rw [if_neg (by omega)] at tn
  have hc : c ∈ TL.numL n.natAbs := by
    rw [← tn]
    have : (numT n).cps.toList[i]? = some c := by rw [Array.getElem?_toList]; exact h
    exact List.mem_of_getElem? this
  have d := TL.numL_digits _ c hc
  have e : (Str.ofString "0123456789").cps.toList = [48, 49, 50, 51, 52, 53, 54, 55, 56, 57] := by decide +kernel
  rw [e]
  have : c = 48 ∨ c = 49 ∨ c = 50 ∨ c = 51 ∨ c = 52 ∨ c = 53 ∨ c = 54 ∨ c = 55 ∨ c = 56 ∨ c = 57 := by omega
  rcases this with rfl | rfl | rfl | rfl | rfl | rfl | rfl | rfl | rfl | rfl <;> decide
def wordT : PyData → Str
  | .str w => w
  | .int n => numT n
  | _ => Str.empty
def wordsT : PyData → List Str
  | .tuple es => es.map wordT
  | _ => []
/-- a row's line, without its end -/
def lineT (d : PyData) : Str := Str.join " " (wordsT d)
def headD (n : Int) : PyData := .tuple [.str "program", .int n]
/-- a program's text -/
def progT (n : Int) (ds : List PyData) : Str := Str.join "" ((headD n :: ds).map fun d => lineT d ++ Str.ofString "\n")
def WRow (d : PyData) : Prop := ∃ (w : Str) (ns : List Int), d = .tuple (.str w :: ns.map PyData.int) ∧ ns.length ≤ 3 ∧ (∀ n ∈ ns, okN n) ∧ 32 ∉ TL.tl w ∧ 10 ∉ TL.tl w ∧ w.length ≤ 10
theorem key_free {w : Str} (h : w ∈ kv_SHAPES.map (·.1)) : 32 ∉ TL.tl w ∧ 10 ∉ TL.tl w ∧ w.length ≤ 10 := by
  have all : ∀ w ∈ kv_SHAPES.map (·.1), 32 ∉ TL.tl w ∧ 10 ∉ TL.tl w ∧ w.length ≤ 10 := by decide +kernel
  exact all w h
theorem Row.w {size many : Int} {d : PyData} (r : Row size many d) : WRow d := by
  obtain ⟨w, es, rfl, hw, l, _, o⟩ := r
  have : ∀ es : List PyData, (∀ e ∈ es, ∃ n, e = .int n ∧ okN n) → ∃ ns : List Int, es = ns.map PyData.int ∧ ∀ n ∈ ns, okN n := by
    intro es
    induction es with
    | nil => intro _; exact ⟨[], rfl, fun _ h => nomatch h⟩
    | cons e es ih =>
      intro h
      obtain ⟨n, rfl, on⟩ := h e List.mem_cons_self
      obtain ⟨ns, rfl, o⟩ := ih fun x hx => h x (List.mem_cons_of_mem _ hx)
      exact ⟨n :: ns, rfl, fun m hm => by
        rcases List.mem_cons.mp hm with rfl | hm
        · exact on
        · exact o m hm⟩
  obtain ⟨ns, rfl, o2⟩ := this es o
  rw [List.length_map] at l
  exact ⟨w, ns, rfl, l, o2, key_free hw⟩
theorem head_w {n : Int} (h : 1 ≤ n ∧ n ≤ 1000000000000000000) : WRow (headD n) := ⟨"program", [n], rfl, by simp, fun m hm => by
  rw [List.mem_singleton.mp hm]
  exact ⟨by omega, by omega⟩, by decide +kernel, by decide +kernel, by decide +kernel⟩
theorem wordsT_eq {w : Str} {ns : List Int} : wordsT (.tuple (.str w :: ns.map PyData.int)) = w :: ns.map numT := by
  simp only [wordsT, List.map_cons, List.map_map]
  rfl
theorem WRow.words {d : PyData} (r : WRow d) : wordsT d ≠ [] ∧ (∀ p ∈ wordsT d, 32 ∉ TL.tl p) ∧ (∀ p ∈ wordsT d, 10 ∉ TL.tl p) ∧ (∀ p ∈ wordsT d, p.length ≤ 62) ∧ (wordsT d).length ≤ 4 := by
  obtain ⟨w, ns, rfl, l, o, a, b, c⟩ := r
  rw [wordsT_eq]
  refine ⟨by simp, fun p hp => ?_, fun p hp => ?_, fun p hp => ?_, by rw [List.length_cons, List.length_map]; omega⟩
  all_goals rcases List.mem_cons.mp hp with rfl | hp
  · exact a
  · obtain ⟨n, _, rfl⟩ := List.mem_map.mp hp
    exact numT_free ⟨by decide, .inl (by decide)⟩
  · exact b
  · obtain ⟨n, _, rfl⟩ := List.mem_map.mp hp
    exact numT_free ⟨by decide, .inl (by decide)⟩
  · omega
  · obtain ⟨n, hn, rfl⟩ := List.mem_map.mp hp
    exact numT_len (o n hn)
theorem joinL_mem {S : List Nat} {s : Nat} : ∀ {ps : List (List Nat)}, s ∈ TL.joinL S ps → s ∈ S ∨ ∃ p ∈ ps, s ∈ p
  | [], h => by simp [TL.joinL] at h
  | [p], h => .inr ⟨p, List.mem_cons_self, by simpa [TL.joinL] using h⟩
  | p :: q :: ps, h => by
    have h : s ∈ p ++ S ++ TL.joinL S (q :: ps) := by simpa [TL.joinL] using h
    rcases List.mem_append.mp h with h | h
    · rcases List.mem_append.mp h with h | h
      · exact .inr ⟨p, List.mem_cons_self, h⟩
      · exact .inl h
    · rcases joinL_mem h with h | ⟨x, hx, h⟩
      · exact .inl h
      · exact .inr ⟨x, List.mem_cons_of_mem _ hx, h⟩
theorem WRow.line {d : PyData} (r : WRow d) : 10 ∉ TL.tl (lineT d) := by
  intro h
  unfold lineT at h
  rw [TL.tl_join] at h
  rcases joinL_mem h with h | ⟨p, hp, h⟩
  · have e : TL.tl (Str.ofString " ") = [32] := by decide +kernel
    rw [e] at h
    simp at h
  · obtain ⟨q, hq, rfl⟩ := List.mem_map.mp hp
    exact r.words.2.2.1 q hq h
theorem joinL_len {S : List Nat} {m : Nat} (hS : S.length ≤ 1) : ∀ {ps : List (List Nat)}, (∀ p ∈ ps, p.length ≤ m) → (TL.joinL S ps).length ≤ (m + 1) * ps.length
  | [], _ => by simp [TL.joinL]
  | [p], h => by
    have := h p List.mem_cons_self
    simp only [TL.joinL, List.length_cons, List.length_nil]
    omega
  | p :: q :: ps, h => by
    have a := h p List.mem_cons_self
    have b := joinL_len hS (ps := q :: ps) fun x hx => h x (List.mem_cons_of_mem _ hx)
    have e : TL.joinL S (p :: q :: ps) = p ++ S ++ TL.joinL S (q :: ps) := by simp [TL.joinL]
    rw [e, List.length_append, List.length_append, List.length_cons]
    rw [Nat.mul_add]
    omega
theorem WRow.len {d : PyData} (r : WRow d) : (lineT d).length ≤ 252 := by
  obtain ⟨_, _, _, l, f⟩ := r.words
  rw [TL.len_tl]
  unfold lineT
  rw [TL.tl_join]
  have e : (TL.tl (Str.ofString " ")).length ≤ 1 := by decide +kernel
  have := joinL_len e (ps := (wordsT d).map TL.tl) (m := 62) fun p hp => by
    obtain ⟨q, hq, rfl⟩ := List.mem_map.mp hp
    rw [← TL.len_tl]
    exact l q hq
  rw [List.length_map] at this
  omega
theorem tl_emp : TL.tl (Str.ofString "") = [] := by decide +kernel
theorem tl_nl : TL.tl (Str.ofString "\n") = [10] := by decide +kernel
theorem joinL_nil : ∀ ps : List (List Nat), TL.joinL [] ps = ps.flatten
  | [] => by simp [TL.joinL]
  | [p] => by simp [TL.joinL]
  | p :: q :: ps => by
    have e : TL.joinL [] (p :: q :: ps) = p ++ [] ++ TL.joinL [] (q :: ps) := by simp [TL.joinL]
    rw [e, joinL_nil (q :: ps), List.append_nil]
    rfl
/-- lines, each with its end: joined, and one end more -/
theorem joinL_end {S : List Nat} : ∀ {ps : List (List Nat)}, ps ≠ [] → (ps.map fun p => p ++ S).flatten = TL.joinL S ps ++ S
  | [], h => absurd rfl h
  | [p], _ => by simp [TL.joinL]
  | p :: q :: ps, _ => by
    have e : TL.joinL S (p :: q :: ps) = p ++ S ++ TL.joinL S (q :: ps) := by simp [TL.joinL]
    rw [List.map_cons, List.flatten_cons, joinL_end (ps := q :: ps) (by simp), e, List.append_assoc, List.append_assoc, List.append_assoc]
theorem tl_progT (n : Int) (ds : List PyData) : TL.tl (progT n ds) = ((headD n :: ds).map fun d => TL.tl (lineT d) ++ [10]).flatten := by
  unfold progT
  rw [TL.tl_join, tl_emp, joinL_nil, List.map_map]
  congr 1
  refine List.map_congr_left fun d _ => ?_
  show TL.tl (lineT d ++ Str.ofString "\n") = _
  rw [TL.tl_append, tl_nl]
/-- the lines joined -/
def bodyT (n : Int) (ds : List PyData) : Str := Str.join "\n" ((headD n :: ds).map lineT)
theorem progT_body (n : Int) (ds : List PyData) : progT n ds = bodyT n ds ++ Str.ofString "\n" := by
  refine TL.ext_tl ?_
  rw [tl_progT, TL.tl_append, tl_nl]
  unfold bodyT
  rw [TL.tl_join, tl_nl, List.map_map, ← joinL_end (by simp), List.map_map]
  rfl
theorem tl_cutS (z : Str) (lo hi : Option Int) : TL.tl (cutS z lo hi) = (((TL.tl z).drop (HT.sIx z.length 0 lo)).take (HT.sIx z.length z.length hi - HT.sIx z.length 0 lo)) := rfl
theorem sIx_m1 (n d : Nat) : HT.sIx n d (some (-1)) = n - 1 := by
  show (if (-1 : Int) < 0 then ((-1 : Int) + (n : Int)).toNat else min (-1 : Int).toNat n) = _
  rw [if_pos (by decide)]
  omega
theorem cut_last (x : Str) : cutS (x ++ Str.ofString "\n") (some (-1)) none = Str.ofString "\n" := by
  refine TL.ext_tl ?_
  have l : (x ++ Str.ofString "\n").length = (TL.tl x).length + 1 := by
    rw [TL.len_tl, TL.tl_append, tl_nl, List.length_append]
    rfl
  rw [tl_cutS, sIx_m1, HT.sIx_none, l, TL.tl_append, tl_nl, Nat.add_sub_cancel, List.drop_left, Nat.add_sub_cancel_left]
  rfl
theorem cut_init (x : Str) : cutS (x ++ Str.ofString "\n") none (some (-1)) = x := by
  refine TL.ext_tl ?_
  have l : (x ++ Str.ofString "\n").length = (TL.tl x).length + 1 := by
    rw [TL.len_tl, TL.tl_append, tl_nl, List.length_append]
    rfl
  rw [tl_cutS, sIx_m1, HT.sIx_none, l, TL.tl_append, tl_nl, Nat.add_sub_cancel, List.drop_zero, Nat.sub_zero, List.take_left]
theorem split_body {n : Int} {ds : List PyData} (h : ∀ d ∈ headD n :: ds, WRow d) : Txt.split (bodyT n ds) (Str.ofString "\n") = (headD n :: ds).map lineT := by
  have e := TL.split_join (y := Str.ofString "\n") (s := 10) (S := []) tl_nl (by decide +kernel) (parts := (headD n :: ds).map lineT) (by simp) fun p hp => by
    obtain ⟨d, hd, rfl⟩ := List.mem_map.mp hp
    exact (h d hd).line
  rw [TL.join_eq] at e
  exact e
theorem split_line {d : PyData} (h : WRow d) : Txt.split (lineT d) (Str.ofString " ") = wordsT d := by
  have e := TL.split_join (y := Str.ofString " ") (s := 32) (S := []) (by decide +kernel) (by decide +kernel) (parts := wordsT d) h.words.1 h.words.2.1
  rw [TL.join_eq] at e
  exact e
theorem progT_len {n : Int} {ds : List PyData} (h : ∀ d ∈ headD n :: ds, WRow d) : (progT n ds).length ≤ 253 * (ds.length + 1) := by
  rw [TL.len_tl, tl_progT]
  have gen : ∀ l : List PyData, (∀ d ∈ l, WRow d) → ((l.map fun d => TL.tl (lineT d) ++ [10]).flatten).length ≤ 253 * l.length := by
    intro l
    induction l with
    | nil => intro _; simp
    | cons d l ih =>
      intro h
      have a := ih fun x hx => h x (List.mem_cons_of_mem _ hx)
      have b := (h d List.mem_cons_self).len
      rw [TL.len_tl] at b
      rw [List.map_cons, List.flatten_cons, List.length_append, List.length_append, List.length_cons, List.length_cons]
      simp only [List.length_nil]
      rw [Nat.mul_add]
      omega
  have := gen _ h
  rwa [List.length_cons] at this

/-! ### programs as texts -/
theorem i_tyS {K : PySem.W.Frag} {H : Hp} {z : Str} {P : Prop} (h : P) : tyV K "str" (.str z) H ∧ P := ⟨rfl, h⟩
theorem small_s {z : Str} {m : Nat} (h : z.length ≤ m) (g : m ≤ 1000000) : z.length ≤ sizeLine := Nat.le_of_lt (small_sz (Nat.le_trans h g))
def sp_number_read : Sp := fun vs H Q _ => ∃ n : Int, vs = [.str (numT n)] ∧ okN n ∧ ∀ H', Kp [] H H' → Q (.int n) H'
theorem sc_number_read : FnScope ["word", "figures", "sign"] ["word"] (defScope s_number_read) :=
  ⟨rfl, rfl, rfl, by decide +kernel, rfl, by decide +kernel, by decide +kernel⟩
theorem ok_number_read {P : Program} {w : World} {K : PySem.W.Frag} {mg : Str → Option Value} {base : Heap} (T : Txt w K mg) :
    FnG P w K mg base 1 T.a_number_read T.d_number_read ["word"] sp_number_read := by
  refine okD T.F_number_read sc_number_read (fun vs H Q E h => ?_) (fun cdv A outer s H vs Q E hr h => ?_)
  · first
      | (obtain ⟨_, rfl, _⟩ := h; rfl)
      | (obtain ⟨_, _, rfl, _⟩ := h; rfl)
      | (obtain ⟨_, _, _, rfl, _⟩ := h; rfl)
      | (obtain ⟨_, _, _, _, rfl, _⟩ := h; rfl)
      | (obtain ⟨_, _, _, _, _, rfl, _⟩ := h; rfl)
      | (obtain ⟨_, _, _, _, _, _, rfl, _⟩ := h; rfl)
      | (obtain ⟨_, _, _, _, _, _, _, rfl, _⟩ := h; rfl)
      | (obtain ⟨_, _, _, _, _, _, _, _, rfl, _⟩ := h; rfl)
      | (obtain ⟨_, _, _, _, _, _, _, _, _, rfl, _⟩ := h; rfl)
      | (obtain ⟨_, _, _, _, _, _, _, _, _, _, rfl, _⟩ := h; rfl)
      | (obtain ⟨_, _, _, _, _, _, _, _, _, _, _, rfl, _⟩ := h; rfl)
      | (obtain ⟨_, _, _, _, _, _, _, _, _, _, _, _, rfl, _⟩ := h; rfl)
      | (obtain ⟨_, _, _, _, _, _, _, _, _, _, _, _, _, rfl, _⟩ := h; rfl)
      | (obtain ⟨_, _, _, _, _, _, _, _, _, _, _, _, _, _, rfl, _⟩ := h; rfl)
      | (obtain ⟨_, _, _, _, _, _, _, _, _, _, _, _, _, _, _, rfl, _⟩ := h; rfl)
      | (obtain ⟨_, _, _, _, _, _, _, _, _, _, _, _, _, _, _, _, rfl, _⟩ := h; rfl)
      | (obtain ⟨_, _, _, _, _, _, _, _, _, _, _, _, _, _, _, _, _, rfl, _⟩ := h; rfl)
      | (obtain ⟨_, _, _, _, _, _, _, _, _, _, _, _, _, _, _, _, _, _, rfl, _⟩ := h; rfl)
      | (obtain ⟨_, _, _, _, _, _, _, _, _, _, _, _, _, _, _, _, _, _, _, rfl, _⟩ := h; rfl)
  · obtain ⟨n, rfl, on, k⟩ := h
    have l0 := numT_len on
    have on2 := natAbs_ok on
    have l2 := numT_len on2
    have big : (1000000 : Nat) ≤ sizeLine := by decide
    have cl_Program := T.cl_Program
    have na_Program_own_rows := T.na_Program_own_rows
    have na_Program_own_size := T.na_Program_own_size
    refine ⟨_, (pss_cons (ps_set (i := 1) sc_number_read.nd rfl (Or.inl rfl) (pe_bm PySem.F.plainAttrs_str PySem.F.slot_str_removeprefix PySem.F.type_str_removeprefix mt_removeprefix (pv 0) (pa_cons pe_str pa_nil)))
      (pss_cons (ps_if (PW.pt (pw_or (pt_cmpR (k_eq (K := K) rfl hr.r.units) (pv 1) pe_str (nomark _)) (pw_or (pt_cmpR op_gt (pe_callB (k_len (K := K) rfl) (by rfl) T.n_len (by decide +kernel) (pa_cons (pv 1) pa_nil)) (pe_glob (v := V.int 4000) rfl T.g_MOST_SIGNS ⟨_, rfl⟩) (nomark _)) (pw_or1 (pt_not (pt_val (pe_callB (k_all (K := K) rfl rfl) (by rfl) T.n_all (by decide +kernel) (pa_cons (pe_lc (own := [("sign", 2)]) (g := (gName 2)) (tt := tYes) rfl sc_number_read.nd (pi_str (pv 1)) (blkOk_by (own := [("sign", 2)]) (N := ["word", "figures", "sign"]) (sc := defScope s_number_read) (by decide +kernel)) (fun _ _ _ _ _ => (pg_name (i := 2) sc_number_read.nd rfl (Or.inl rfl))) (fun _ _ _ _ _ => pts_nil) (fun _ _ _ _ _ => (pe_cmpR op_in_sign (pv 2) pe_str (rfl)))) pa_nil)))))))) (pss_one (ps_ret pe_non)) pss_nil)
      (pss_one (ps_ret (pe_ifExp (PW.pt (pw_and (pt_cmpR (k_eq (K := K) rfl hr.r.units) (pe_callTy call_str_int (by rfl) T.n_str (by decide +kernel) (pa_cons (pe_callTy call_int_str (by rfl) T.n_int (by decide +kernel) (pa_cons (pv 1) pa_nil)) pa_nil)) (pv 1) (nomark _)) (pw_and1 (pt_cmpR (k_ne (K := K) rfl hr.r.units) (pv 0) pe_str (nomark _))))) (pe_callTy call_int_str (by rfl) T.n_int (by decide +kernel) (pa_cons (pv 0) pa_nil)) pe_non))))), ?_⟩
    dsimp only [cxOf, st_1, st_2, st_3, st_4, st_5, st_6, List.length_cons, List.length_nil, List.replicate_succ, List.replicate_zero, Nat.reduceAdd, Nat.reduceSub]
    walk_at "gs"
    refine i_tyS ?_
    walk_at "gs"
    refine ⟨numT n, "-", rfl, rfl, by omega, ?_⟩
    rw [numT_bare]
    walk_at "gs"
    refine i_dec (fun e => absurd e numT_ne) (fun _ => ?_)
    walk_at "gs"
    refine i_lenS (by omega) ?_
    walk_at "gs"
    refine i_dec (fun e => absurd e (by omega)) (fun _ => ?_)
    walk_at "gs"
    refine i_lcS ?_
    walk_at "gs"
    have sz : (numT (n.natAbs : Int)).cps.size ≤ 62 := l2
    refine i_mapS ((List.replicate (numT (n.natAbs : Int)).cps.size true).map V.bl) (by rw [List.length_map, List.length_replicate]) (by rw [List.length_map, List.length_replicate]; omega) ?_ ?_
    · intro D i c y H' Q' fD hc hy kk q
      rw [List.getElem?_map, List.getElem?_replicate] at hy
      have hy : V.bl true = y := by
        split at hy
        · exact Option.some.inj hy
        · cases hy
      subst hy
      walk_at "gs"
      refine ⟨c, _, rfl, rfl, ?_⟩
      rw [decide_eq_true (numT_signs (by omega) hc)]
      exact q H' Kp.refl
    intro D H1 fD k1 hD
    walk_at "gs"
    refine i_all (SqL.of hD) ?_
    have ar : (List.replicate (numT (n.natAbs : Int)).cps.size true).all id = true := by simp
    rw [ar]
    walk_at "gs"
    have b1 := on2.1
    have b2 := on2.2
    refine ⟨_, (n.natAbs : Int), rfl, numT_int on2, by omega, ?_⟩
    walk_at "gs"
    refine ⟨_, rfl, okI_of (by omega) (by omega), ?_⟩
    walk_at "gs"
    refine i_dec (fun _ => ?_) (fun e => absurd rfl e)
    walk_at "gs"
    refine i_decN (fun _ => ?_) (fun e => absurd e numT_zero)
    walk_at "gs"
    exact ⟨_, n, rfl, numT_int on, by omega, k H1 k1⟩
/-- a list of lists of texts -/
def WordsAt (H : Hp) (L : Addr) (lss : List (List Str)) : Prop := ∃ as : List Addr, H L = some (.lst (as.map V.ref)) ∧ as.length = lss.length ∧ ∀ (i : Nat) a ws, as[i]? = some a → lss[i]? = some ws → H a = some (.lst (ws.map V.str))
theorem WordsAt.kp {H H' : Hp} {L : Addr} {lss : List (List Str)} (h : WordsAt H L lss) (k : Kp [] H H') : WordsAt H' L lss := by
  obtain ⟨as, a, b, c⟩ := h
  exact ⟨as, k.at_ _ _ a not_nil, b, fun i x ws h1 h2 => k.at_ _ _ (c i x ws h1 h2) not_nil⟩
def sp_rows_of_text (K : PySem.W.Frag) : Sp := fun vs H Q _ => ∃ (n : Int) (ds : List PyData), vs = [.str (progT n ds)] ∧ (∀ d ∈ headD n :: ds, WRow d) ∧ ds.length ≤ 100 ∧ ∀ L H', Kp [] H H' → WordsAt H' L ((headD n :: ds).map wordsT) → Q (.ref L) H'
theorem sc_rows_of_text : FnScope ["text", "row"] ["text"] (defScope s_rows_of_text) :=
  ⟨rfl, rfl, rfl, by decide +kernel, rfl, by decide +kernel, by decide +kernel⟩
theorem ok_rows_of_text {P : Program} {w : World} {K : PySem.W.Frag} {mg : Str → Option Value} {base : Heap} (T : Txt w K mg) :
    FnG P w K mg base 1 T.a_rows_of_text T.d_rows_of_text ["text"] (sp_rows_of_text K) := by
  refine okD T.F_rows_of_text sc_rows_of_text (fun vs H Q E h => ?_) (fun cdv A outer s H vs Q E hr h => ?_)
  · first
      | (obtain ⟨_, rfl, _⟩ := h; rfl)
      | (obtain ⟨_, _, rfl, _⟩ := h; rfl)
      | (obtain ⟨_, _, _, rfl, _⟩ := h; rfl)
      | (obtain ⟨_, _, _, _, rfl, _⟩ := h; rfl)
      | (obtain ⟨_, _, _, _, _, rfl, _⟩ := h; rfl)
      | (obtain ⟨_, _, _, _, _, _, rfl, _⟩ := h; rfl)
      | (obtain ⟨_, _, _, _, _, _, _, rfl, _⟩ := h; rfl)
      | (obtain ⟨_, _, _, _, _, _, _, _, rfl, _⟩ := h; rfl)
      | (obtain ⟨_, _, _, _, _, _, _, _, _, rfl, _⟩ := h; rfl)
      | (obtain ⟨_, _, _, _, _, _, _, _, _, _, rfl, _⟩ := h; rfl)
      | (obtain ⟨_, _, _, _, _, _, _, _, _, _, _, rfl, _⟩ := h; rfl)
      | (obtain ⟨_, _, _, _, _, _, _, _, _, _, _, _, rfl, _⟩ := h; rfl)
      | (obtain ⟨_, _, _, _, _, _, _, _, _, _, _, _, _, rfl, _⟩ := h; rfl)
      | (obtain ⟨_, _, _, _, _, _, _, _, _, _, _, _, _, _, rfl, _⟩ := h; rfl)
      | (obtain ⟨_, _, _, _, _, _, _, _, _, _, _, _, _, _, _, rfl, _⟩ := h; rfl)
      | (obtain ⟨_, _, _, _, _, _, _, _, _, _, _, _, _, _, _, _, rfl, _⟩ := h; rfl)
      | (obtain ⟨_, _, _, _, _, _, _, _, _, _, _, _, _, _, _, _, _, rfl, _⟩ := h; rfl)
      | (obtain ⟨_, _, _, _, _, _, _, _, _, _, _, _, _, _, _, _, _, _, rfl, _⟩ := h; rfl)
      | (obtain ⟨_, _, _, _, _, _, _, _, _, _, _, _, _, _, _, _, _, _, _, rfl, _⟩ := h; rfl)
  · obtain ⟨n, ds, rfl, wr, few, k⟩ := h
    have lp := progT_len wr
    have big : (1000000 : Nat) ≤ sizeLine := by decide
    have cl_Program := T.cl_Program
    have na_Program_own_rows := T.na_Program_own_rows
    have na_Program_own_size := T.na_Program_own_size
    refine ⟨_, (pss_cons (ps_if (PW.pt (pw_or (pt_not (pt_val (pe_callB (k_isi (K := K) rfl) (by rfl) T.n_isinstance (by decide +kernel) (pa_cons (pv 0) (pa_cons (pe_bltn (v := .ty "str") (by rfl) T.n_str (by decide +kernel) rfl) pa_nil))))) (pw_or1 (pt_cmpR (k_ne (K := K) rfl hr.r.units) (pe_slice sl_str (pv 0) (po_some (pe_un un_neg pe_int)) po_none) pe_str (nomark _))))) (pss_one ps_never) pss_nil)
      (pss_one (ps_ret (pe_lc (own := [("row", 1)]) (g := (gName 1)) (tt := tYes) rfl sc_rows_of_text.nd (k_plist (K := K) rfl (pe_bm PySem.F.plainAttrs_str PySem.F.slot_str_split PySem.F.type_str_split mt_split (pe_slice sl_str (pv 0) po_none (po_some (pe_un un_neg pe_int))) (pa_cons pe_str pa_nil))) (blkOk_by (own := [("row", 1)]) (N := ["text", "row"]) (sc := defScope s_rows_of_text) (by decide +kernel)) (fun _ _ _ _ _ => (pg_name (i := 1) sc_rows_of_text.nd rfl (Or.inl rfl))) (fun _ _ _ _ _ => pts_nil) (fun _ _ _ _ _ => (k_bm (K := K) rfl PySem.F.plainAttrs_str PySem.F.slot_str_split PySem.F.type_str_split mt_split (pv 1) (pa_cons pe_str pa_nil))))))), ?_⟩
    dsimp only [cxOf, st_1, st_2, st_3, st_4, st_5, st_6, List.length_cons, List.length_nil, List.replicate_succ, List.replicate_zero, Nat.reduceAdd, Nat.reduceSub]
    walk_at "gs"
    refine ⟨.str (progT n ds), .ty "str", _, _, true, rfl, .ty "str", .base (.str _), L2.kit_ty (by decide), ?_⟩
    walk_at "gs"
    refine ⟨_, rfl, by omega, ?_⟩
    rw [progT_body, cut_last]
    walk_at "gs"
    refine ⟨_, rfl, by rw [← progT_body]; omega, ?_⟩
    rw [cut_init]
    walk_at "gs"
    refine i_tyS ?_
    walk_at "gs"
    have lb : (bodyT n ds).length ≤ 30000 := by
      have e := congrArg Str.length (progT_body n ds)
      have e2 : (bodyT n ds ++ Str.ofString "\n").length = (bodyT n ds).length + (Str.ofString "\n").length := strLen_append _ _
      omega
    refine ⟨_, _, rfl, rfl, by decide +kernel, by omega, fun S hS => ?_⟩
    rw [split_body wr]
    have fS : Fr H S := ⟨hS⟩
    have kS : Kp [] H (upd H S (.lst (((headD n :: ds).map lineT).map V.str))) := Kp.new fS
    have hS1 : (upd H S (.lst (((headD n :: ds).map lineT).map V.str))) S = some (.lst (((headD n :: ds).map lineT).map V.str)) := upd_same
    obtain ⟨H1, e1⟩ : ∃ H1, H1 = upd H S (.lst (((headD n :: ds).map lineT).map V.str)) := ⟨_, rfl⟩
    rw [← e1] at kS hS1 ⊢
    walk_at "gs"
    refine i_elts (SqL.of hS1) (fun D i H' => Kp [] H1 H' ∧ ∃ as : List Addr, H' D = some (.lst (as.map V.ref)) ∧ as.length = i ∧ (∀ a ∈ as, a ≠ D) ∧ ∀ (j : Nat) a ws, as[j]? = some a → ((headD n :: ds).map wordsT)[j]? = some ws → H' a = some (.lst (ws.map V.str))) ?_ ?_ ?_ ?_
    · intro D fD
      exact ⟨Kp.new fD, [], upd_same, rfl, fun _ h => (nomatch h), fun j a ws h => by simp at h⟩
    · rintro D i H' fD _ ⟨kk, _⟩
      exact SqL.of (kk.at_ _ _ hS1 not_nil)
    · rintro D i x H2 fD hx ⟨k2, as, hD, la, na, ha⟩
      rw [List.getElem?_map, List.getElem?_map] at hx
      cases ed : (headD n :: ds)[i]? with
      | none => rw [ed] at hx; cases hx
      | some d =>
        rw [ed] at hx
        cases hx
        have wd := wr d (List.mem_of_getElem? ed)
        have ll := wd.len
        have hi := (List.getElem?_eq_some_iff.mp ed).1
        rw [List.length_cons] at hi
        walk_at "gs"
        refine i_tyS ?_
        walk_at "gs"
        refine ⟨_, _, rfl, rfl, by decide +kernel, by omega, fun B hB => ?_⟩
        rw [split_line wd]
        have fB : Fr H2 B := ⟨hB⟩
        have kB : Kp [] H2 (upd H2 B (.lst ((wordsT d).map V.str))) := Kp.new fB
        have nBD : B ≠ D := fun e => by
          rw [e, hD] at hB
          cases hB
        have hD3 := kB.at_ _ _ hD not_nil
        have hB3 : (upd H2 B (.lst ((wordsT d).map V.str))) B = some (.lst ((wordsT d).map V.str)) := upd_same
        obtain ⟨H3, e3⟩ : ∃ H3, H3 = upd H2 B (.lst ((wordsT d).map V.str)) := ⟨_, rfl⟩
        rw [← e3] at kB hD3 hB3 ⊢
        walk_at "gs"
        have kw : Kp [D] H3 (upd H3 D (.lst (as.map V.ref ++ [V.ref B]))) := kp_set hD3 (fun z => z)
        refine ⟨_, hD3, small_sz (by rw [List.length_map]; omega), Kp.upd (Kp.trans k2 kB) fD, as ++ [B], by rw [List.map_append]; exact upd_same, by rw [List.length_append, la]; rfl, fun a ha2 => ?_, fun j a ws hj hw => ?_⟩
        · rcases List.mem_append.mp ha2 with h | h
          · exact na a h
          · rw [List.mem_singleton.mp h]
            exact nBD
        · by_cases c : j < as.length
          · rw [List.getElem?_append_left c] at hj
            exact kw.at_ _ _ (kB.at_ _ _ (ha j a ws hj hw) not_nil) (not_one (na a (List.mem_of_getElem? hj)))
          · have cj : j = as.length := by
              have := (List.getElem?_eq_some_iff.mp hj).1
              rw [List.length_append, List.length_singleton] at this
              omega
            subst cj
            rw [List.getElem?_append_right (Nat.le_refl _), Nat.sub_self] at hj
            cases hj
            rw [List.getElem?_map, la, ed] at hw
            cases hw
            exact kw.at_ _ _ hB3 (not_one nBD)
    rintro D H2 fD ⟨k2, as, hD, la, na, ha⟩
    rw [List.length_map, List.length_map] at la
    exact k D H2 (Kp.trans kS k2) ⟨as, hD, by rw [la, List.length_map], ha⟩
def sp_numbers_read (K : PySem.W.Frag) : Sp := fun vs H Q _ => ∃ (a : Addr) (ns : List Int), vs = [.ref a] ∧ SqL K H a ((ns.map numT).map V.str) ∧ (∀ n ∈ ns, okN n) ∧ ns.length ≤ 1000 ∧ ∀ R H', Fr H R → Kp [] H H' → H' R = some (.lst (ns.map V.int)) → Q (.ref R) H'
theorem sc_numbers_read : FnScope ["words", "found", "word"] ["words"] (defScope s_numbers_read) :=
  ⟨rfl, rfl, rfl, by decide +kernel, rfl, by decide +kernel, by decide +kernel⟩
theorem ok_numbers_read {P : Program} {w : World} {K : PySem.W.Frag} {mg : Str → Option Value} {base : Heap} (T : Txt w K mg) :
    FnG P w K mg base 2 T.a_numbers_read T.d_numbers_read ["words"] (sp_numbers_read K) := by
  refine okD T.F_numbers_read sc_numbers_read (fun vs H Q E h => ?_) (fun cdv A outer s H vs Q E hr h => ?_)
  · first
      | (obtain ⟨_, rfl, _⟩ := h; rfl)
      | (obtain ⟨_, _, rfl, _⟩ := h; rfl)
      | (obtain ⟨_, _, _, rfl, _⟩ := h; rfl)
      | (obtain ⟨_, _, _, _, rfl, _⟩ := h; rfl)
      | (obtain ⟨_, _, _, _, _, rfl, _⟩ := h; rfl)
      | (obtain ⟨_, _, _, _, _, _, rfl, _⟩ := h; rfl)
      | (obtain ⟨_, _, _, _, _, _, _, rfl, _⟩ := h; rfl)
      | (obtain ⟨_, _, _, _, _, _, _, _, rfl, _⟩ := h; rfl)
      | (obtain ⟨_, _, _, _, _, _, _, _, _, rfl, _⟩ := h; rfl)
      | (obtain ⟨_, _, _, _, _, _, _, _, _, _, rfl, _⟩ := h; rfl)
      | (obtain ⟨_, _, _, _, _, _, _, _, _, _, _, rfl, _⟩ := h; rfl)
      | (obtain ⟨_, _, _, _, _, _, _, _, _, _, _, _, rfl, _⟩ := h; rfl)
      | (obtain ⟨_, _, _, _, _, _, _, _, _, _, _, _, _, rfl, _⟩ := h; rfl)
      | (obtain ⟨_, _, _, _, _, _, _, _, _, _, _, _, _, _, rfl, _⟩ := h; rfl)
      | (obtain ⟨_, _, _, _, _, _, _, _, _, _, _, _, _, _, _, rfl, _⟩ := h; rfl)
      | (obtain ⟨_, _, _, _, _, _, _, _, _, _, _, _, _, _, _, _, rfl, _⟩ := h; rfl)
      | (obtain ⟨_, _, _, _, _, _, _, _, _, _, _, _, _, _, _, _, _, rfl, _⟩ := h; rfl)
      | (obtain ⟨_, _, _, _, _, _, _, _, _, _, _, _, _, _, _, _, _, _, rfl, _⟩ := h; rfl)
      | (obtain ⟨_, _, _, _, _, _, _, _, _, _, _, _, _, _, _, _, _, _, _, rfl, _⟩ := h; rfl)
  · obtain ⟨a, ns, rfl, ha, on, l, k⟩ := h
    refine ⟨_, (pss_cons (ps_setLc (i := 1) (own := [("word", 2)]) (g := (gName 2)) (tt := tYes) rfl sc_numbers_read.nd rfl rfl (sw_true rfl rfl rfl (by decide +kernel)) (k_plist (K := K) rfl (pv 0)) (blkOk_by (own := [("word", 2)]) (N := ["words", "found", "word"]) (sc := defScope s_numbers_read) (by decide +kernel)) (fun _ _ _ _ _ => (pg_name (i := 2) sc_numbers_read.nd rfl (Or.inl rfl))) (fun _ _ _ _ _ => pts_nil) (fun _ _ _ _ _ => (d1 (ok_number_read T) (hr.mono (by decide)) (by rfl) T.m_number_read T.F_number_read.kp T.b_number_read passL (pa_cons (pv 2) pa_nil))))
      (pss_cons (ps_if (pt_cmpR (k_in (K := K) rfl) pe_non (pv 1) (rfl)) (pss_one ps_never) pss_nil)
      (pss_one (ps_ret (pv 1))))), ?_⟩
    dsimp only [cxOf, st_1, st_2, st_3, st_4, st_5, st_6, List.length_cons, List.length_nil, List.replicate_succ, List.replicate_zero, Nat.reduceAdd, Nat.reduceSub]
    walk_at "gs"
    refine i_mapL ha (ns.map V.int) (by rw [List.length_map, List.length_map, List.length_map]) (by rw [List.length_map, List.length_map]; omega) ?_ ?_
    · intro D i x y H' Q' fD hx hy k1 q
      rw [List.getElem?_map, List.getElem?_map] at hx
      rw [List.getElem?_map] at hy
      cases e : ns[i]? with
      | none => rw [e] at hy; cases hy
      | some n =>
        rw [e] at hx hy
        cases hx
        cases hy
        walk_at "gs"
        exact ⟨n, rfl, on n (List.mem_of_getElem? e), fun H4 k4 => q H4 k4⟩
    intro D H1 fD k1 e1
    walk_at "gs"
    have nin : inV .non (ns.map V.int) = false := by
      unfold inV
      rw [List.any_eq_false]
      intro x hx
      obtain ⟨m, _, rfl⟩ := List.mem_map.mp hx
      exact Bool.false_ne_true
    refine ⟨D, _, rfl, .inl (SqL.of e1), rfl, flat_ints ns, ?_⟩
    simp only [Bool.false_eq_true, if_false]
    rw [nin]
    walk_at "gs"
    exact k D H1 fD k1 e1
theorem dpa_intsV {K : PySem.W.Frag} {H : Hp} : ∀ {ns : List Int} {vs : List V}, DpAll K H vs (ns.map PyData.int) → vs = ns.map V.int
  | [], _, h => by cases h; rfl
  | n :: ns, _, h => by
    cases h with
    | cons h1 h2 =>
      cases h1
      rw [dpa_intsV h2]
      rfl
theorem dp_wrow {K : PySem.W.Frag} {H : Hp} {x : V} {w : Str} {ns : List Int} (h : Dp K H x (.tuple (.str w :: ns.map PyData.int))) : ∃ t, x = .ref t ∧ SqT K H t (.str w :: ns.map V.int) := by
  cases h with
  | tup hs ha =>
    cases ha with
    | cons h1 h2 =>
      cases h1
      rw [dpa_intsV h2] at hs
      exact ⟨_, rfl, hs⟩
theorem sum_len {m : Nat} : ∀ {l : List Str}, (∀ p ∈ l, p.length ≤ m) → (l.map (·.length)).sum ≤ m * l.length
  | [], _ => Nat.zero_le _
  | p :: l, h => by
    have a := h p List.mem_cons_self
    have b := sum_len fun x hx => h x (List.mem_cons_of_mem _ hx)
    rw [List.map_cons, List.sum_cons, List.length_cons, Nat.mul_add]
    omega
def sp_program_text (K : PySem.W.Frag) (CP : Addr) : Sp := fun vs H Q _ => ∃ (p R : Addr) (n : Int) (xs : List V) (ds : List PyData), vs = [.ref p] ∧ ProgAt CP H p R n xs ∧ (1 ≤ n ∧ n ≤ 1000000000000000000) ∧ DpAll K H xs ds ∧ (∀ d ∈ ds, Row n ds.length d) ∧ ds.length ≤ 100 ∧ ∀ H', Kp [] H H' → Q (.str (progT n ds)) H'
theorem sc_program_text : FnScope ["program", "rows", "row", "thing"] ["program"] (defScope s_program_text) :=
  ⟨rfl, rfl, rfl, by decide +kernel, rfl, by decide +kernel, by decide +kernel⟩
theorem ok_program_text {P : Program} {w : World} {K : PySem.W.Frag} {mg : Str → Option Value} {base : Heap} (T : Txt w K mg) :
    FnG P w K mg base 2 T.a_program_text T.d_program_text ["program"] (sp_program_text K T.c_Program) := by
  refine okD T.F_program_text sc_program_text (fun vs H Q E h => ?_) (fun cdv A outer s H vs Q E hr h => ?_)
  · first
      | (obtain ⟨_, rfl, _⟩ := h; rfl)
      | (obtain ⟨_, _, rfl, _⟩ := h; rfl)
      | (obtain ⟨_, _, _, rfl, _⟩ := h; rfl)
      | (obtain ⟨_, _, _, _, rfl, _⟩ := h; rfl)
      | (obtain ⟨_, _, _, _, _, rfl, _⟩ := h; rfl)
      | (obtain ⟨_, _, _, _, _, _, rfl, _⟩ := h; rfl)
      | (obtain ⟨_, _, _, _, _, _, _, rfl, _⟩ := h; rfl)
      | (obtain ⟨_, _, _, _, _, _, _, _, rfl, _⟩ := h; rfl)
      | (obtain ⟨_, _, _, _, _, _, _, _, _, rfl, _⟩ := h; rfl)
      | (obtain ⟨_, _, _, _, _, _, _, _, _, _, rfl, _⟩ := h; rfl)
      | (obtain ⟨_, _, _, _, _, _, _, _, _, _, _, rfl, _⟩ := h; rfl)
      | (obtain ⟨_, _, _, _, _, _, _, _, _, _, _, _, rfl, _⟩ := h; rfl)
      | (obtain ⟨_, _, _, _, _, _, _, _, _, _, _, _, _, rfl, _⟩ := h; rfl)
      | (obtain ⟨_, _, _, _, _, _, _, _, _, _, _, _, _, _, rfl, _⟩ := h; rfl)
      | (obtain ⟨_, _, _, _, _, _, _, _, _, _, _, _, _, _, _, rfl, _⟩ := h; rfl)
      | (obtain ⟨_, _, _, _, _, _, _, _, _, _, _, _, _, _, _, _, rfl, _⟩ := h; rfl)
      | (obtain ⟨_, _, _, _, _, _, _, _, _, _, _, _, _, _, _, _, _, rfl, _⟩ := h; rfl)
      | (obtain ⟨_, _, _, _, _, _, _, _, _, _, _, _, _, _, _, _, _, _, rfl, _⟩ := h; rfl)
      | (obtain ⟨_, _, _, _, _, _, _, _, _, _, _, _, _, _, _, _, _, _, _, rfl, _⟩ := h; rfl)
  · obtain ⟨p, R, n, xs, ds, rfl, P1, hn, da, rows, few, k⟩ := h
    obtain ⟨dx, hp, hR⟩ := id P1
    have cl_Program := T.cl_Program
    have na_Program_own_rows := T.na_Program_own_rows
    have na_Program_own_size := T.na_Program_own_size
    refine ⟨_, (pss_cons (ps_set (i := 1) sc_program_text.nd rfl (Or.inl rfl) (pe_op (k_add (K := K) rfl) (pe_lst (pa_cons (pe_tup (pa_cons pe_str (pa_cons (dm0 T.cl_Program T.me_Program_size (ok_Program_size T) (hr.mono (by decide)) T.b_Program_size passL (pv 0)) pa_nil))) pa_nil)) (dm0 T.cl_Program T.me_Program_rows (ok_Program_rows T) (hr.mono (by decide)) T.b_Program_rows passL (pv 0))))
      (pss_one (ps_ret (pe_bm PySem.F.plainAttrs_str PySem.F.slot_str_join PySem.F.type_str_join (k_join (K := K) rfl) pe_str (pa_cons (pe_lc (own := [("row", 2)]) (g := (gName 2)) (tt := tYes) rfl sc_program_text.nd (k_plist (K := K) rfl (pv 1)) (blkOk_by (own := [("row", 2)]) (N := ["program", "rows", "row", "thing"]) (sc := defScope s_program_text) (by decide +kernel)) (fun _ _ _ _ _ => (pg_name (i := 2) sc_program_text.nd rfl (Or.inl rfl))) (fun _ _ _ _ _ => pts_nil) (fun _ _ _ _ _ => (pe_op (k_add (K := K) rfl) (k_bm (K := K) rfl PySem.F.plainAttrs_str PySem.F.slot_str_join PySem.F.type_str_join (k_join (K := K) rfl) pe_str (pa_cons (pe_lc (own := [("thing", 3)]) (g := (gName 3)) (tt := tYes) rfl sc_program_text.nd (k_ptup (K := K) rfl (pv 2)) (blkOk_by (own := [("thing", 3)]) (N := ["program", "rows", "row", "thing"]) (by rfl)) (fun _ _ _ _ _ => (pg_name (i := 3) sc_program_text.nd rfl (Or.inl rfl))) (fun _ _ _ _ _ => pts_nil) (fun _ _ _ _ _ => (pe_callTy (k_strAny (K := K) rfl) (by rfl) T.n_str (by decide +kernel) (pa_cons (pv 3) pa_nil)))) pa_nil)) pe_str))) pa_nil))))), ?_⟩
    dsimp only [cxOf, st_1, st_2, st_3, st_4, st_5, st_6, List.length_cons, List.length_nil, List.replicate_succ, List.replicate_zero, Nat.reduceAdd, Nat.reduceSub]
    walk_at "gs"
    refine ⟨p, R, n, xs, rfl, P1, ?_⟩
    walk_at "gs"
    refine i_new fun tp ftp => ?_
    walk_at "gs"
    refine i_new fun Lh fLh => ?_
    obtain ⟨H1, e1⟩ : ∃ H1, H1 = upd (upd H tp (.tup [V.str (Str.ofString "program"), V.int n])) Lh (.lst [V.ref tp]) := ⟨_, rfl⟩
    have k1 : Kp [] H H1 := by
      rw [e1]
      walk_at "g_kp"
    have htp : SqT K H1 tp [V.str (Str.ofString "program"), V.int n] := by
      rw [e1]
      walk_at "g_st"
    have hLh : H1 Lh = some (.lst [V.ref tp]) := by
      rw [e1]
      exact upd_same
    rw [← e1]
    have hp1 := k1.at_ _ _ hp not_nil
    walk_at "gs"
    refine ⟨p, R, n, xs, rfl, P1.kp0 k1, fun M fM => ?_⟩
    have kM : Kp [] H1 (upd H1 M (.lst xs)) := Kp.new fM
    have hM : (upd H1 M (.lst xs)) M = some (.lst xs) := upd_same
    obtain ⟨H2, e2⟩ : ∃ H2, H2 = upd H1 M (.lst xs) := ⟨_, rfl⟩
    rw [← e2] at kM hM ⊢
    have hLh2 := kM.at_ _ _ hLh not_nil
    have lxs := dpa_len da
    have im := rows_imm rows
    walk_at "gs"
    try refine i_addL hLh2 hM (by rw [List.length_singleton]; omega) ?_
    refine i_new fun Z fZ => ?_
    have kZ : Kp [] H2 (upd H2 Z (.lst ([V.ref tp] ++ xs))) := Kp.new fZ
    have hZ : (upd H2 Z (.lst ([V.ref tp] ++ xs))) Z = some (.lst (V.ref tp :: xs)) := upd_same
    obtain ⟨H3, e3⟩ : ∃ H3, H3 = upd H2 Z (.lst ([V.ref tp] ++ xs)) := ⟨_, rfl⟩
    rw [← e3] at kZ hZ ⊢
    have k03 := Kp.trans k1 (Kp.trans kM kZ)
    have wr : ∀ d ∈ headD n :: ds, WRow d := fun d hd => by
      rcases List.mem_cons.mp hd with rfl | hd
      · exact head_w hn
      · exact (rows d hd).w
    have da3 : DpAll K H3 (V.ref tp :: xs) (headD n :: ds) := .cons (.tup ((Kp.trans kM kZ).seqT htp) (.cons (.str _) (.cons (.int _) .nil))) (dpa_imm k03 _ _ im da)
    have im3 : imms (headD n :: ds) = true := by
      simp only [imms, im, Bool.and_true]
      rfl
    walk_at "gs"
    refine i_tyS ?_
    walk_at "gs"
    refine i_mapL (SqL.of hZ) (((headD n :: ds).map fun d => lineT d ++ Str.ofString "\n").map V.str) (by rw [List.length_map, List.length_map, List.length_cons, List.length_cons, lxs]) (by rw [List.length_cons]; omega) ?_ ?_
    · intro D i x y H4 Q' fD hx hy k4 q
      obtain ⟨d, hd, hxd⟩ := dpa_getV (dpa_imm k4 _ _ im3 da3) hx
      rw [List.getElem?_map, List.getElem?_map, hd] at hy
      cases hy
      have wd := wr d (List.mem_of_getElem? hd)
      have ll := wd.len
      obtain ⟨w, ns, rfl, ln, on, _, _, lw⟩ := id wd
      obtain ⟨t, rfl, ht⟩ := dp_wrow hxd
      walk_at "gs"
      refine i_tyS ?_
      walk_at "gs"
      refine i_lcT ?_
      walk_at "gs"
      refine i_mapT ht ((w :: ns.map numT).map V.str) (by rw [List.length_map, List.length_cons, List.length_cons, List.length_map, List.length_map]) (by rw [List.length_cons, List.length_map]; omega) ?_ ?_
      · intro D2 j x2 y2 H5 Q2 fD2 hx2 hy2 k5 q2
        cases j with
        | zero =>
          rw [List.getElem?_cons_zero] at hx2
          rw [List.map_cons, List.getElem?_cons_zero] at hy2
          cases hx2
          cases hy2
          walk_at "gs"
          exact .inr ⟨w, rfl, q2 H5 Kp.refl⟩
        | succ j =>
          rw [List.getElem?_cons_succ, List.getElem?_map] at hx2
          rw [List.map_cons, List.getElem?_cons_succ, List.getElem?_map, List.getElem?_map] at hy2
          cases en : ns[j]? with
          | none => rw [en] at hx2; cases hx2
          | some m =>
            rw [en] at hx2 hy2
            cases hx2
            cases hy2
            have om := on m (List.mem_of_getElem? en)
            have o1 := om.1
            have o2 := om.2
            walk_at "gs"
            exact .inl ⟨m, rfl, okI_of (by omega) (by omega), q2 H5 Kp.refl⟩
      intro D2 H5 fD2 k5 hD2
      have sl : ∀ p ∈ w :: ns.map numT, p.length ≤ 62 := by
        have := wd.words.2.2.2.1
        rw [wordsT_eq] at this
        exact this
      have sm := sum_len sl
      have lsp : (Str.ofString " ").length = 1 := by decide +kernel
      have lnl : (Str.ofString "\n").length = 1 := by decide +kernel
      walk_at "gs"
      refine ⟨_, D2, w :: ns.map numT, rfl, rfl, .inl (SqL.of hD2), ?_, ?_⟩
      · rw [List.length_cons, List.length_map] at sm ⊢
        rw [lsp]
        omega
      rw [TL.join_eq]
      have el : Str.join (Str.ofString " ") (w :: ns.map numT) = lineT (.tuple (.str w :: ns.map PyData.int)) := by
        unfold lineT
        rw [wordsT_eq]
      rw [el]
      have big : (1000000 : Nat) ≤ sizeLine := by decide
      walk_at "gs"
      refine i_addS (by rw [lnl]; omega) ?_
      exact q H5 k5
    intro D H4 fD k4 hD
    have big : ((((headD n :: ds).map fun d => lineT d ++ Str.ofString "\n").map (·.length)).sum) ≤ 253 * (ds.length + 1) := by
      have lnl : (Str.ofString "\n").length = 1 := by decide +kernel
      have := sum_len (m := 253) (l := (headD n :: ds).map fun d => lineT d ++ Str.ofString "\n") fun p hp => by
        obtain ⟨d, hd, rfl⟩ := List.mem_map.mp hp
        have a := (wr d hd).len
        have b : (lineT d ++ Str.ofString "\n").length = (lineT d).length + (Str.ofString "\n").length := strLen_append _ _
        omega
      rwa [List.length_map, List.length_cons] at this
    walk_at "gs"
    refine ⟨_, D, (headD n :: ds).map fun d => lineT d ++ Str.ofString "\n", rfl, rfl, .inl (SqL.of hD), ?_, ?_⟩
    · have l0 : (Str.ofString "").length = 0 := by decide +kernel
      rw [l0]
      omega
    rw [TL.join_eq]
    exact k H4 (Kp.trans k03 k4)
def sp_read_program (K : PySem.W.Frag) (CP : Addr) : Sp := fun vs H Q _ => ∃ (n : Int) (ds : List PyData), vs = [.str (progT n ds)] ∧ (1 ≤ n ∧ n ≤ 1000000000000000000) ∧ (∀ d ∈ ds, Row n ds.length d) ∧ ds.length ≤ 100 ∧ ∀ p R xs H', Fr H p → Fr H R → p ≠ R → Kp [] H H' → ProgAt CP H' p R n xs → DpAll K H' xs ds → Q (.ref p) H'
theorem sc_read_program : FnScope ["text", "first", "others", "size", "rows", "words"] ["text"] (defScope s_read_program) :=
  ⟨rfl, rfl, rfl, by decide +kernel, rfl, by decide +kernel, by decide +kernel⟩
theorem ok_read_program {P : Program} {w : World} {K : PySem.W.Frag} {mg : Str → Option Value} {base : Heap} (T : Txt w K mg) :
    FnG P w K mg base 6 T.a_read_program T.d_read_program ["text"] (sp_read_program K T.c_Program) := by
  refine okD T.F_read_program sc_read_program (fun vs H Q E h => ?_) (fun cdv A outer s H vs Q E hr h => ?_)
  · first
      | (obtain ⟨_, rfl, _⟩ := h; rfl)
      | (obtain ⟨_, _, rfl, _⟩ := h; rfl)
      | (obtain ⟨_, _, _, rfl, _⟩ := h; rfl)
      | (obtain ⟨_, _, _, _, rfl, _⟩ := h; rfl)
      | (obtain ⟨_, _, _, _, _, rfl, _⟩ := h; rfl)
      | (obtain ⟨_, _, _, _, _, _, rfl, _⟩ := h; rfl)
      | (obtain ⟨_, _, _, _, _, _, _, rfl, _⟩ := h; rfl)
      | (obtain ⟨_, _, _, _, _, _, _, _, rfl, _⟩ := h; rfl)
      | (obtain ⟨_, _, _, _, _, _, _, _, _, rfl, _⟩ := h; rfl)
      | (obtain ⟨_, _, _, _, _, _, _, _, _, _, rfl, _⟩ := h; rfl)
      | (obtain ⟨_, _, _, _, _, _, _, _, _, _, _, rfl, _⟩ := h; rfl)
      | (obtain ⟨_, _, _, _, _, _, _, _, _, _, _, _, rfl, _⟩ := h; rfl)
      | (obtain ⟨_, _, _, _, _, _, _, _, _, _, _, _, _, rfl, _⟩ := h; rfl)
      | (obtain ⟨_, _, _, _, _, _, _, _, _, _, _, _, _, _, rfl, _⟩ := h; rfl)
      | (obtain ⟨_, _, _, _, _, _, _, _, _, _, _, _, _, _, _, rfl, _⟩ := h; rfl)
      | (obtain ⟨_, _, _, _, _, _, _, _, _, _, _, _, _, _, _, _, rfl, _⟩ := h; rfl)
      | (obtain ⟨_, _, _, _, _, _, _, _, _, _, _, _, _, _, _, _, _, rfl, _⟩ := h; rfl)
      | (obtain ⟨_, _, _, _, _, _, _, _, _, _, _, _, _, _, _, _, _, _, rfl, _⟩ := h; rfl)
      | (obtain ⟨_, _, _, _, _, _, _, _, _, _, _, _, _, _, _, _, _, _, _, rfl, _⟩ := h; rfl)
  · obtain ⟨n, ds, rfl, hn, rows, few, k⟩ := h
    have wr : ∀ d ∈ headD n :: ds, WRow d := fun d hd => by
      rcases List.mem_cons.mp hd with rfl | hd
      · exact head_w hn
      · exact (rows d hd).w
    refine ⟨_, (pss_cons (ps_asg (d1 (ok_rows_of_text T) (hr.mono (by decide)) (by rfl) T.m_rows_of_text T.F_rows_of_text.kp T.b_rows_of_text passL (pa_cons (pv 0) pa_nil)) (k_gstar (K := K) rfl rfl (pgs_cons (pg_name (i := 1) sc_read_program.nd rfl (Or.inl rfl)) (pgs_star (pg_name (i := 2) sc_read_program.nd rfl (Or.inl rfl)) pgs_nil))))
      (pss_cons (ps_if (PW.pt (pw_or (pt_cmpR (k_ne (K := K) rfl hr.r.units) (pe_callB (k_len (K := K) rfl) (by rfl) T.n_len (by decide +kernel) (pa_cons (pv 1) pa_nil)) pe_int (nomark _)) (pw_or1 (pt_cmpR (k_ne (K := K) rfl hr.r.units) (pe_ix (k_ix (K := K) rfl) (pv 1) pe_int (fun _ _ => rfl)) pe_str (nomark _))))) (pss_one ps_never) pss_nil)
      (pss_cons (ps_set (i := 3) sc_read_program.nd rfl (Or.inl rfl) (pe_ix (k_ix (K := K) rfl) (d1 (ok_numbers_read T) (hr.mono (by decide)) (by rfl) T.m_numbers_read T.F_numbers_read.kp T.b_numbers_read passL (pa_cons (pe_slice (k_sl (K := K) rfl) (pv 1) (po_some pe_int) po_none) pa_nil)) pe_int (fun _ _ => rfl)))
      (pss_cons (ps_setLc (i := 4) (own := [("words", 5)]) (g := (gName 5)) (tt := tYes) rfl sc_read_program.nd rfl rfl (sw_true rfl rfl rfl (by decide +kernel)) (k_plist (K := K) rfl (pv 2)) (blkOk_by (own := [("words", 5)]) (N := ["text", "first", "others", "size", "rows", "words"]) (sc := defScope s_read_program) (by decide +kernel)) (fun _ _ _ _ _ => (pg_name (i := 5) sc_read_program.nd rfl (Or.inl rfl))) (fun _ _ _ _ _ => pts_nil) (fun _ _ _ _ _ => (pe_op (k_add (K := K) rfl) (pe_tup (pa_cons (pe_ix (k_ix (K := K) rfl) (pv 5) pe_int (fun _ _ => rfl)) pa_nil)) (pe_callTy (k_tupOf (K := K) rfl) (by rfl) T.n_tuple (by decide +kernel) (pa_cons (d1 (ok_numbers_read T) (hr.mono (by decide)) (by rfl) T.m_numbers_read T.F_numbers_read.kp T.b_numbers_read passL (pa_cons (pe_slice (k_sl (K := K) rfl) (pv 5) (po_some pe_int) po_none) pa_nil)) pa_nil)))))
      (pss_one (ps_try_only rfl rfl ⟨rfl, by decide, .inl T.mx_ForkError⟩ takes0 (fun W pn xe tk _ => (pss_one (ps_ret (mkX T.mk_Program (ok_Program_init T) (hr.mono (by decide)) (by rfl) T.mg_Program T.b_Program_init (passAt tk) (pa_cons (pv 3) (pa_cons (pv 4) pa_nil)))))) (fun ea eo ecl ed epn hz hf => (pss_one ps_never)))))))), ?_⟩
    dsimp only [cxOf, st_1, st_2, st_3, st_4, st_5, st_6, List.length_cons, List.length_nil, List.replicate_succ, List.replicate_zero, Nat.reduceAdd, Nat.reduceSub]
    walk_at "gs"
    refine ⟨n, ds, rfl, wr, few, fun L H1 k1 wa => ?_⟩
    obtain ⟨as, hL, la, ha⟩ := wa
    rw [List.length_map, List.length_cons] at la
    rcases as with _ | ⟨a0, as⟩
    · cases la
    have la : as.length = ds.length := by simpa using la
    have h0 := ha 0 a0 _ rfl rfl
    have hw : ∀ (j : Nat) a d, as[j]? = some a → ds[j]? = some d → H1 a = some (.lst ((wordsT d).map V.str)) := fun j a d e1 e2 => ha (j + 1) a _ (by rw [List.getElem?_cons_succ]; exact e1) (by rw [List.map_cons, List.getElem?_cons_succ, List.getElem?_map, e2]; rfl)
    refine i_star (a := L) (x := .ref a0) (xs := as.map V.ref) (.inr (SqL.of hL)) (by rw [List.length_map]; omega) fun O fO => ?_
    have kO : Kp [] H1 (upd H1 O (.lst (as.map V.ref))) := Kp.new fO
    have hO : (upd H1 O (.lst (as.map V.ref))) O = some (.lst (as.map V.ref)) := upd_same
    obtain ⟨H2, e2⟩ : ∃ H2, H2 = upd H1 O (.lst (as.map V.ref)) := ⟨_, rfl⟩
    show gCons _ _ _ _ (upd H1 O (.lst (as.map V.ref))) _
    rw [← e2] at kO hO ⊢
    have k02 := Kp.trans k1 kO
    have h02 : H2 a0 = some (.lst [V.str (Str.ofString "program"), V.str (numT n)]) := kO.at_ _ _ h0 not_nil
    have hw2 : ∀ (j : Nat) a d, as[j]? = some a → ds[j]? = some d → H2 a = some (.lst ((wordsT d).map V.str)) := fun j a d e1 e2 => kO.at_ _ _ (hw j a d e1 e2) not_nil
    have at0 : atI [V.str (Str.ofString "program"), V.str (numT n)] 0 = some (.str (Str.ofString "program")) := at_zero
    walk_at "gs"
    have c1 : ∀ {v : V} {xs : List V}, cutV (v :: xs) (some 1) none = xs := fun {v xs} => by
      rw [show (1 : Int) = ((1 : Nat) : Int) from rfl, cutV_from (by rw [List.length_cons]; omega), List.drop_one, List.tail_cons]
    refine i_new fun B fB => ?_
    rw [c1]
    have kB : Kp [] H2 (upd H2 B (.lst [V.str (numT n)])) := Kp.new fB
    have hB : (upd H2 B (.lst [V.str (numT n)])) B = some (.lst [V.str (numT n)]) := upd_same
    obtain ⟨H3, e3⟩ : ∃ H3, H3 = upd H2 B (.lst [V.str (numT n)]) := ⟨_, rfl⟩
    rw [← e3] at kB hB ⊢
    walk_at "gs"
    refine ⟨B, [n], rfl, SqL.of hB, fun m hm => ?_, by simp, fun R1 H4 fR1 k4 hR1 => ?_⟩
    · rw [List.mem_singleton.mp hm]
      exact ⟨by omega, by omega⟩
    have at1 : atI [V.int n] 0 = some (.int n) := at_zero
    have hR1' : H4 R1 = some (.lst [V.int n]) := hR1
    walk_at "gs"
    have k24 := Kp.trans kB k4
    have hO4 := k24.at_ _ _ hO not_nil
    have hw4 : ∀ (j : Nat) a d, as[j]? = some a → ds[j]? = some d → H4 a = some (.lst ((wordsT d).map V.str)) := fun j a d e1 e2 => k24.at_ _ _ (hw2 j a d e1 e2) not_nil
    walk_at "gs"
    refine i_elts (SqL.of hO4) (fun D i H' => Kp [] H4 H' ∧ ∃ us, H' D = some (.lst us) ∧ us.length = i ∧ DpAll K H' us (ds.take i)) ?_ ?_ ?_ ?_
    · intro D fD
      exact ⟨Kp.new fD, [], upd_same, rfl, by rw [List.take_zero]; exact .nil⟩
    · rintro D i H' fD _ ⟨kk, _⟩
      exact SqL.of (kk.at_ _ _ hO4 not_nil)
    · rintro D i x H5 fD hx ⟨k5, us, hD, lu, du⟩
      obtain ⟨a, ea, rfl⟩ := map_get hx
      have hi := (List.getElem?_eq_some_iff.mp ea).1
      obtain ⟨d, hd⟩ : ∃ d, ds[i]? = some d := ⟨_, List.getElem?_eq_getElem (by omega)⟩
      have hwa := k5.at_ _ _ (hw4 i a d ea hd) not_nil
      have rd := rows d (List.mem_of_getElem? hd)
      obtain ⟨w, ns, rfl, ln, on, _, _, _⟩ := rd.w
      rw [wordsT_eq, List.map_cons] at hwa
      have at2 : atI (V.str w :: (ns.map numT).map V.str) 0 = some (.str w) := at_zero
      walk_at "gs"
      refine i_new fun t1 ft1 => ?_
      have k6 : Kp [] H5 (upd H5 t1 (.tup [V.str w])) := Kp.new ft1
      have ht1 : SqT K (upd H5 t1 (.tup [V.str w])) t1 [V.str w] := SqT.of upd_same
      obtain ⟨H6, e6⟩ : ∃ H6, H6 = upd H5 t1 (.tup [V.str w]) := ⟨_, rfl⟩
      rw [← e6] at k6 ht1 ⊢
      have hwa6 := k6.at_ _ _ hwa not_nil
      walk_at "gs"
      refine i_new fun B2 fB2 => ?_
      rw [c1]
      have k7 : Kp [] H6 (upd H6 B2 (.lst ((ns.map numT).map V.str))) := Kp.new fB2
      have hB2 : (upd H6 B2 (.lst ((ns.map numT).map V.str))) B2 = some (.lst ((ns.map numT).map V.str)) := upd_same
      obtain ⟨H7, e7⟩ : ∃ H7, H7 = upd H6 B2 (.lst ((ns.map numT).map V.str)) := ⟨_, rfl⟩
      rw [← e7] at k7 hB2 ⊢
      walk_at "gs"
      refine ⟨B2, ns, rfl, SqL.of hB2, on, by omega, fun R2 H8 fR2 k8 hR2 => ?_⟩
      walk_at "gs"
      refine ⟨R2, _, rfl, .inl ⟨SqL.of hR2, fun t2 ht2' => ?_⟩⟩
      have ft2 : Fr H8 t2 := ⟨ht2'⟩
      have k9 : Kp [] H8 (upd H8 t2 (.tup (ns.map V.int))) := Kp.new ft2
      have ht2 : SqT K (upd H8 t2 (.tup (ns.map V.int))) t2 (ns.map V.int) := SqT.of upd_same
      obtain ⟨H9, e9⟩ : ∃ H9, H9 = upd H8 t2 (.tup (ns.map V.int)) := ⟨_, rfl⟩
      rw [← e9] at k9 ht2 ⊢
      have k59 : Kp [] H5 H9 := Kp.trans k6 (Kp.trans k7 (Kp.trans k8 k9))
      have ht19 := (Kp.trans k7 (Kp.trans k8 k9)).seqT ht1
      have hD9 := k59.at_ _ _ hD not_nil
      have du9 := dpa_imm k59 _ _ (rows_imm (ds := ds.take i) fun x hx => rows x (List.mem_of_mem_take hx)) du
      have alli : ∀ (H' : Hp) (l : List Int), DpAll K H' (l.map V.int) (l.map PyData.int) := fun H' l => by
        induction l with
        | nil => exact .nil
        | cons n l ih => exact .cons (.int n) ih
      have fin : ∀ (H' : Hp) (t : Addr), Kp [] H9 H' → SqT K H' t (V.str w :: ns.map V.int) → ∃ acc, H' D = some (.lst acc) ∧ acc.length < sizeLine ∧ (Kp [] H4 (upd H' D (.lst (acc ++ [V.ref t]))) ∧ ∃ us, (upd H' D (.lst (acc ++ [V.ref t]))) D = some (.lst us) ∧ us.length = i + 1 ∧ DpAll K (upd H' D (.lst (acc ++ [V.ref t]))) us (ds.take (i + 1))) := by
        intro H' t k' ht
        have hD' := k'.at_ _ _ hD9 not_nil
        have kw : Kp [D] H' (upd H' D (.lst (us ++ [V.ref t]))) := kp_set hD' (fun z => z)
        refine ⟨us, hD', small_sz (by omega), Kp.upd (Kp.trans k5 (Kp.trans k59 k')) fD, _, upd_same, by rw [List.length_append, lu]; rfl, ?_⟩
        rw [List.take_add_one, hd]
        refine dpa_app (dpa_imm (Kp.trans k'.wide kw) _ _ (rows_imm (ds := ds.take i) fun x hx => rows x (List.mem_of_mem_take hx)) du9) (.cons ?_ .nil)
        exact .tup (kw.seqT ht) (.cons (.str w) (alli _ ns))
      walk_at "gs"
      have big : (1000000 : Nat) ≤ sizeLine := by decide
      refine .inr (.inr (.inr ⟨t1, t2, _, _, rfl, rfl, ht19, ht2, by simp, by rw [List.length_map, List.length_singleton]; omega, fun e => ?_, fun _ => ?_⟩))
      · have e0 : ns = [] := List.map_eq_nil_iff.mp e
        subst e0
        exact fin H9 t1 Kp.refl ht19
      · refine i_new fun t3 ft3 => ?_
        exact fin _ t3 (Kp.new ft3) (SqT.of upd_same)
    rintro D H5 fD ⟨k5, us, hD, lu, du⟩
    rw [List.length_map] at lu
    rw [List.length_map, la, List.take_of_length_le (Nat.le_refl _)] at du
    walk_at "gs"
    refine i_mkX ?_
    walk_at "gs"
    have w1 : whD (.int n) 1 1000000000000000000 = true := decide_eq_true hn
    have b1 : badAt ds n = none := bad_none fun d hd => (rows d hd).choose_spec.choose_spec.2.2.2.1
    have k05 := Kp.trans k02 (Kp.trans k24 k5)
    refine mk_prog hD (rowsV_of du rows) (by omega) w1 b1 fun p R H6 fp fR np k6 PM => ?_
    exact k p R us H6 (k05.free fp) (k05.free fR) np (Kp.trans k05 k6) PM (dpa_imm k6 _ _ (rows_imm rows) du)

/-! ### for over a tuple -/
section
variable {K : PySem.W.Frag} {σ : L2.St} {H : Hp} {D : Ends} {tb : TS} {te : TE} {g : TG} {a : Addr} {xs : List V}
def ForT (K : PySem.W.Frag) (x : V) (g : TG) (tb : TS) (D : Ends) (σ : L2.St) (H : Hp) : Prop :=
  ∃ a, x = .ref a ∧ (∃ ys, SqT K H a ys) ∧ ∃ W : Nat → Nat → L2.St → Hp → Prop,
    (∃ m, W 0 m σ H) ∧ ∀ i m σ H, W i m σ H → ((Itt K a).stop i H ∧ D.nx σ H) ∨
      ((Itt K a).go i H ∧ ∃ Nx : L2.St → Hp → Prop,
        (∀ σ' H', Nx σ' H' → ∃ m', m' < m ∧ W (i + 1) m' σ' H') ∧
        ∀ x H', (Itt K a).yld i H x H' → g x σ H' fun σ2 H2 =>
          tb { D with nx := Nx, ct := Nx, bk := D.nx } σ2 H2)
theorem i_forT (h : te σ H fun x H1 => ForT K x g tb D σ H1) : tFor (iTup K te) g tb D σ H := h
theorem i_eachT (hs : SqT K H a xs) (Pv : Nat → L2.St → Hp → Prop) (h0 : Pv 0 σ H)
    (hl : ∀ i σ H, i ≤ xs.length → Pv i σ H → SqT K H a xs)
    (st : ∀ i x σ H, xs[i]? = some x → Pv i σ H → g x σ H fun σ2 H2 =>
      tb { D with nx := Pv (i + 1), ct := Pv (i + 1), bk := D.nx } σ2 H2)
    (hd : ∀ σ H, Pv xs.length σ H → D.nx σ H) : ForT K (.ref a) g tb D σ H :=
  ⟨a, rfl, ⟨_, hs⟩, for_tup Pv h0 hl st hd⟩
end

/-! ### the law's own text -/
theorem joinL_cons {S p : List Nat} : ∀ {ps : List (List Nat)}, TL.joinL S (p :: ps) = p ++ (ps.map fun q => S ++ q).flatten
  | [] => by simp [TL.joinL]
  | q :: ps => by
    have e : TL.joinL S (p :: q :: ps) = p ++ S ++ TL.joinL S (q :: ps) := by simp [TL.joinL]
    rw [e, joinL_cons (p := q) (ps := ps), List.map_cons, List.flatten_cons, List.append_assoc, List.append_assoc]
theorem tl_line {w : Str} {ns : List Int} : TL.tl (lineT (.tuple (.str w :: ns.map PyData.int))) = TL.tl w ++ (ns.map fun n => 32 :: TL.tl (numT n)).flatten := by
  unfold lineT
  have e : TL.tl (Str.ofString " ") = [32] := by decide +kernel
  rw [wordsT_eq, TL.tl_join, e, List.map_cons, joinL_cons, List.map_map, List.map_map]
  rfl
theorem tl_head {n : Int} : TL.tl (progT n []) = TL.tl (Str.ofString "program ") ++ TL.tl (numT n) ++ [10] := by
  rw [tl_progT]
  have e : TL.tl (lineT (headD n)) = TL.tl (Str.ofString "program") ++ ([n].map fun n => 32 :: TL.tl (numT n)).flatten := tl_line (w := "program") (ns := [n])
  have e2 : TL.tl (Str.ofString "program ") = TL.tl (Str.ofString "program") ++ [32] := by decide +kernel
  simp only [List.map_cons, List.map_nil, List.flatten_cons, List.flatten_nil, List.append_nil]
  rw [e, e2]
  simp only [List.map_cons, List.map_nil, List.flatten_cons, List.flatten_nil, List.append_nil, List.append_assoc, List.singleton_append, List.cons_append, List.nil_append]
theorem tl_next {n : Int} {ds : List PyData} {i : Nat} {d : PyData} (h : ds[i]? = some d) : TL.tl (progT n (ds.take (i + 1))) = TL.tl (progT n (ds.take i)) ++ TL.tl (lineT d) ++ [10] := by
  rw [tl_progT, tl_progT, List.take_add_one, h]
  show ((headD n :: (ds.take i ++ [d])).map fun d => TL.tl (lineT d) ++ [10]).flatten = _
  rw [← List.cons_append, List.map_append, List.flatten_append]
  simp only [List.map_cons, List.map_nil, List.flatten_cons, List.flatten_nil, List.append_nil, List.append_assoc]
theorem s_app {a b c : Str} (h : TL.tl c = TL.tl a ++ TL.tl b) : a ++ b = c := TL.ext_tl (by rw [TL.tl_append, h])
def sp_law_text (K : PySem.W.Frag) : Sp := fun vs H Q _ => ∃ (n : Int) (R : Addr) (ds : List PyData), vs = [.int n, .ref R] ∧ LD K H R ds ∧ (1 ≤ n ∧ n ≤ 1000000000000000000) ∧ (∀ d ∈ ds, Row n ds.length d) ∧ ds.length ≤ 100 ∧ ∀ H', Kp [] H H' → Q (.str (progT n ds)) H'
theorem sc_law_text : FnScope ["_law_size_here", "_law_rows_here", "_law_found", "_law_row_here", "_law_thing"] ["_law_size_here", "_law_rows_here"] (defScope s_law_text) :=
  ⟨rfl, rfl, rfl, by decide +kernel, rfl, by decide +kernel, by decide +kernel⟩
theorem ok_law_text {P : Program} {w : World} {K : PySem.W.Frag} {mg : Str → Option Value} {base : Heap} (T : Txt w K mg) :
    FnG P w K mg base 1 T.a_law_text T.d_law_text ["_law_size_here", "_law_rows_here"] (sp_law_text K) := by
  refine okD T.F_law_text sc_law_text (fun vs H Q E h => ?_) (fun cdv A outer s H vs Q E hr h => ?_)
  · first
      | (obtain ⟨_, rfl, _⟩ := h; rfl)
      | (obtain ⟨_, _, rfl, _⟩ := h; rfl)
      | (obtain ⟨_, _, _, rfl, _⟩ := h; rfl)
      | (obtain ⟨_, _, _, _, rfl, _⟩ := h; rfl)
      | (obtain ⟨_, _, _, _, _, rfl, _⟩ := h; rfl)
      | (obtain ⟨_, _, _, _, _, _, rfl, _⟩ := h; rfl)
      | (obtain ⟨_, _, _, _, _, _, _, rfl, _⟩ := h; rfl)
      | (obtain ⟨_, _, _, _, _, _, _, _, rfl, _⟩ := h; rfl)
      | (obtain ⟨_, _, _, _, _, _, _, _, _, rfl, _⟩ := h; rfl)
      | (obtain ⟨_, _, _, _, _, _, _, _, _, _, rfl, _⟩ := h; rfl)
      | (obtain ⟨_, _, _, _, _, _, _, _, _, _, _, rfl, _⟩ := h; rfl)
      | (obtain ⟨_, _, _, _, _, _, _, _, _, _, _, _, rfl, _⟩ := h; rfl)
      | (obtain ⟨_, _, _, _, _, _, _, _, _, _, _, _, _, rfl, _⟩ := h; rfl)
      | (obtain ⟨_, _, _, _, _, _, _, _, _, _, _, _, _, _, rfl, _⟩ := h; rfl)
      | (obtain ⟨_, _, _, _, _, _, _, _, _, _, _, _, _, _, _, rfl, _⟩ := h; rfl)
      | (obtain ⟨_, _, _, _, _, _, _, _, _, _, _, _, _, _, _, _, rfl, _⟩ := h; rfl)
      | (obtain ⟨_, _, _, _, _, _, _, _, _, _, _, _, _, _, _, _, _, rfl, _⟩ := h; rfl)
      | (obtain ⟨_, _, _, _, _, _, _, _, _, _, _, _, _, _, _, _, _, _, rfl, _⟩ := h; rfl)
      | (obtain ⟨_, _, _, _, _, _, _, _, _, _, _, _, _, _, _, _, _, _, _, rfl, _⟩ := h; rfl)
  · obtain ⟨n, R, ds, rfl, ld, hn, rows, few, k⟩ := h
    obtain ⟨xs, hR, da⟩ := id ld
    have lxs := dpa_len da
    have im := rows_imm rows
    have big : (1000000 : Nat) ≤ sizeLine := by decide
    have wr : ∀ d ∈ headD n :: ds, WRow d := fun d hd => by
      rcases List.mem_cons.mp hd with rfl | hd
      · exact head_w hn
      · exact (rows d hd).w
    have lenp : ∀ i, (progT n (ds.take i)).length ≤ 253 * 101 := fun i => by
      have a := progT_len (n := n) (ds := ds.take i) fun d hd => by
        rcases List.mem_cons.mp hd with rfl | hd
        · exact head_w hn
        · exact wr d (List.mem_cons_of_mem _ (List.mem_of_mem_take hd))
      have : (ds.take i).length ≤ 100 := by rw [List.length_take]; omega
      have := Nat.mul_le_mul_left 253 (show (ds.take i).length + 1 ≤ 101 by omega)
      omega
    refine ⟨_, (pss_cons (ps_set (i := 2) sc_law_text.nd rfl (Or.inl rfl) (pe_op (k_add (K := K) rfl) (pe_op (k_add (K := K) rfl) pe_str (pe_callTy call_str_int (by rfl) T.n_str (by decide +kernel) (pa_cons (pv 0) pa_nil))) pe_str))
      (pss_cons (ps_for (passes_of rfl) rfl (k_plist (K := K) rfl (pv 1)) (pg_name (i := 3) sc_law_text.nd rfl (Or.inl rfl))
      (pss_cons (ps_set (i := 2) sc_law_text.nd rfl (Or.inl rfl) (pe_op (k_add (K := K) rfl) (pv 2) (pe_ix (k_ix (K := K) rfl) (pv 3) pe_int (fun _ _ => rfl))))
      (pss_cons (ps_for (passes_of rfl) rfl (k_ptup (K := K) rfl (pe_slice (k_slT (K := K) rfl) (pv 3) (po_some pe_int) po_none)) (pg_name (i := 4) sc_law_text.nd rfl (Or.inl rfl))
      (pss_one (ps_set (i := 2) sc_law_text.nd rfl (Or.inl rfl) (pe_op (k_add (K := K) rfl) (pe_op (k_add (K := K) rfl) (pv 2) pe_str) (pe_callTy call_str_int (by rfl) T.n_str (by decide +kernel) (pa_cons (pv 4) pa_nil))))))
      (pss_one (ps_set (i := 2) sc_law_text.nd rfl (Or.inl rfl) (pe_op (k_add (K := K) rfl) (pv 2) pe_str))))))
      (pss_one (ps_ret (pv 2))))), ?_⟩
    dsimp only [cxOf, st_1, st_2, st_3, st_4, st_5, st_6, List.length_cons, List.length_nil, List.replicate_succ, List.replicate_zero, Nat.reduceAdd, Nat.reduceSub]
    walk_at "gs"
    refine ⟨n, rfl, okI_of (by omega) (by omega), ?_⟩
    have onn : okN n := ⟨by omega, by omega⟩
    have l1 : (Str.ofString "program ").length = 8 := by decide +kernel
    have l2 : (Str.ofString (toString n)).length ≤ 62 := numT_len onn
    have l3 : (Str.ofString "\n").length = 1 := by decide +kernel
    have l4 : (Str.ofString " ").length = 1 := by decide +kernel
    have la : ∀ a b : Str, (a ++ b).length = a.length + b.length := fun a b => strLen_append a b
    walk_at "gs"
    refine i_addS (by omega) ?_
    walk_at "gs"
    refine i_addS (by rw [la]; omega) ?_
    have e0 : Str.ofString "program " ++ Str.ofString (toString n) ++ Str.ofString "\n" = progT n (ds.take 0) := TL.ext_tl (by
      rw [List.take_zero, tl_head, TL.tl_append, TL.tl_append, tl_nl]
      rfl)
    rw [e0]
    walk_at "gs"
    refine i_each (SqL.of hR) (fun i σ H' => ∃ (o3 o4 : Option V), σ = [some (.int n), some (.ref R), some (.str (progT n (ds.take i))), o3, o4] ∧ Kp [] H H') ?_ ?_ ?_ ?_
    · exact ⟨_, _, rfl, Kp.refl⟩
    · rintro i σ H' _ ⟨o3, o4, rfl, kk⟩
      exact SqL.of (kk.at_ _ _ hR not_nil)
    · rintro i x σ H1 hx ⟨o3, o4, rfl, k1⟩
      obtain ⟨d, hd, hxd⟩ := dpa_getV (dpa_imm k1 _ _ im da) hx
      have wd := wr d (List.mem_cons_of_mem _ (List.mem_of_getElem? hd))
      obtain ⟨w, ns, rfl, ln, on, _, _, lw⟩ := id wd
      obtain ⟨t, rfl, ht⟩ := dp_wrow hxd
      have lpi := lenp i
      have at0 : atI (V.str w :: ns.map V.int) 0 = some (.str w) := at_zero
      walk_at "gs"
      refine i_addS (by omega) ?_
      walk_at "gs"
      refine i_forT ?_
      walk_at "gs"
      refine ⟨t, _, rfl, ht, fun q => ?_, ?_⟩
      · have q1 := q.1
        rw [show (1 : Int) = ((1 : Nat) : Int) from rfl, HT.sIx_nat, List.length_cons] at q1
        omega
      rw [show (1 : Int) = ((1 : Nat) : Int) from rfl, cutV_from (by rw [List.length_cons]; omega), List.drop_one, List.tail_cons]
      refine i_new fun t2 ft2 => ?_
      have k2 : Kp [] H1 (upd H1 t2 (.tup (ns.map V.int))) := Kp.new ft2
      have ht2 : SqT K (upd H1 t2 (.tup (ns.map V.int))) t2 (ns.map V.int) := SqT.of upd_same
      obtain ⟨H2, e2⟩ : ∃ H2, H2 = upd H1 t2 (.tup (ns.map V.int)) := ⟨_, rfl⟩
      rw [← e2] at k2 ht2 ⊢
      refine i_eachT ht2 (fun j σ H' => ∃ (o4 : Option V) (s : Str), σ = [some (.int n), some (.ref R), some (.str s), some (.ref t), o4] ∧ Kp [] H2 H' ∧ TL.tl s = TL.tl (progT n (ds.take i)) ++ TL.tl w ++ ((ns.take j).map fun n => 32 :: TL.tl (numT n)).flatten ∧ s.length ≤ 25600 + 64 * j) ?_ ?_ ?_ ?_
      · refine ⟨_, _, rfl, Kp.refl, ?_, ?_⟩
        · rw [TL.tl_append, List.take_zero]
          simp
        · rw [la]
          omega
      · rintro j σ H' _ ⟨o4, s, rfl, kk, _⟩
        exact kk.seqT ht2
      · rintro j y σ H3 hy ⟨o4, s, rfl, k3, es, ls⟩
        obtain ⟨m, hm, rfl⟩ := map_get hy
        have om := on m (List.mem_of_getElem? hm)
        have o1 := om.1
        have o2 := om.2
        have hj := (List.getElem?_eq_some_iff.mp hm).1
        have lm : (Str.ofString (toString m)).length ≤ 62 := numT_len om
        walk_at "gs"
        refine i_addS (by omega) ?_
        walk_at "gs"
        refine ⟨m, rfl, okI_of (by omega) (by omega), ?_⟩
        walk_at "gs"
        refine i_addS (by rw [la]; omega) ?_
        walk_at "gs"
        refine ⟨_, _, rfl, k3, ?_, ?_⟩
        · have e : TL.tl (Str.ofString " ") = [32] := by decide +kernel
          rw [TL.tl_append, TL.tl_append, es, e, List.take_add_one, hm, List.map_append, List.flatten_append]
          simp only [Option.toList_some, List.map_cons, List.map_nil, List.flatten_cons, List.flatten_nil, List.append_nil, List.append_assoc, List.singleton_append, List.cons_append, List.nil_append]
          rfl
        · rw [la, la]
          omega
      · rintro σ H3 ⟨o4, s, rfl, k3, es, ls⟩
        rw [List.length_map] at ls es
        rw [List.take_of_length_le (Nat.le_refl _)] at es
        walk_at "gs"
        refine i_addS (by omega) ?_
        have e3 : s ++ Str.ofString "\n" = progT n (ds.take (i + 1)) := TL.ext_tl (by
          rw [TL.tl_append, es, tl_nl, tl_next hd, tl_line, List.append_assoc (TL.tl (progT n (ds.take i)))])
        rw [e3]
        walk_at "gs"
        exact ⟨_, _, rfl, Kp.trans k1 (Kp.trans k2 k3)⟩
    rintro σ H1 ⟨o3, o4, rfl, k1⟩
    rw [lxs, List.take_of_length_le (Nat.le_refl _)]
    walk_at "gs"
    exact k H1 k1

/-! ### the signs of a shown text -/
def Sg (s : Str) : Prop := ∀ c ∈ s.cps.toList, c < 16 ^ 8
theorem char_small (c : Char) : c.toNat < 16 ^ 8 := by
  have h := c.valid
  have e : c.toNat = c.val.toNat := rfl
  rcases h with h | h
  · omega
  · omega
theorem sg_of (s : String) : Sg (Str.ofString s) := by
  intro c hc
  rw [Str.ofString_eq_toList] at hc
  have hc : c ∈ s.toList.map Char.toNat := by simpa using hc
  obtain ⟨x, _, rfl⟩ := List.mem_map.mp hc
  exact char_small x
theorem sg_app {a b : Str} (h : Sg a) (g : Sg b) : Sg (a ++ b) := by
  intro c hc
  have hc : c ∈ (a.cps ++ b.cps).toList := hc
  rw [Array.toList_append, List.mem_append] at hc
  exact hc.elim (h c) (g c)
theorem sg_hex {w c : Nat} : ∀ x ∈ List.replicate (w - ((Nat.toDigits 16 c).map Char.toNat).length) 48 ++ (Nat.toDigits 16 c).map Char.toNat, x < 16 ^ 8 := by
  intro x hx
  rcases List.mem_append.mp hx with hx | hx
  · rw [(List.mem_replicate.mp hx).2]
    decide
  · obtain ⟨y, _, rfl⟩ := List.mem_map.mp hx
    exact char_small y
theorem sg_char {q c : Nat} (hc : c < 16 ^ 8) : ∀ x ∈ Builtin.Str.reprChar q c, x < 16 ^ 8 := by
  have h2 := sg_hex (w := 2) (c := c)
  have h4 := sg_hex (w := 4) (c := c)
  have h8 := sg_hex (w := 8) (c := c)
  intro x
  unfold Builtin.Str.reprChar
  dsimp only
  repeat' split
  all_goals
    intro hx
    simp only [List.cons_append, List.nil_append, List.mem_cons, List.not_mem_nil, or_false] at hx
    rcases hx with rfl | hx
  all_goals first
    | decide
    | exact hc
    | (subst hx; first | decide | exact hc)
    | (rcases hx with rfl | hx; decide; first | exact h2 x hx | exact h4 x hx | exact h8 x hx)
theorem sg_fold {q : Nat} : ∀ (l : List Nat) (acc : Array Nat), (∀ c ∈ l, c < 16 ^ 8) → (∀ c ∈ acc.toList, c < 16 ^ 8) → ∀ c ∈ (l.foldl (fun out c => out ++ (Builtin.Str.reprChar q c).toArray) acc).toList, c < 16 ^ 8
  | [], acc, _, h => h
  | c :: r, acc, h, g => by
    rw [List.foldl_cons]
    refine sg_fold r _ (fun d hd => h d (List.mem_cons_of_mem _ hd)) fun d hd => ?_
    rw [Array.toList_append, List.mem_append] at hd
    exact hd.elim (g d) (fun hd => sg_char (h c List.mem_cons_self) d hd)
theorem sg_repr {x : Str} (h : Sg x) : Sg (reprText x) := by
  have hq : reprQuote x < 16 ^ 8 := by
    unfold reprQuote
    split <;> decide
  intro c hc
  unfold reprText at hc
  have hc : c ∈ ((x.cps.foldl (fun out c => out ++ (Builtin.Str.reprChar (reprQuote x) c).toArray) #[reprQuote x]).push (reprQuote x)).toList := hc
  rw [Array.toList_push, List.mem_append, ← Array.foldl_toList] at hc
  rcases hc with hc | hc
  · exact sg_fold _ _ h (fun c hc => by
      have : c = reprQuote x := by simpa using hc
      rw [this]
      exact hq) c hc
  · have : c = reprQuote x := by simpa using hc
    rw [this]
    exact hq
theorem sg_from : ∀ (ts : List Str) (k : Nat) (acc : Str), Sg acc → (∀ t ∈ ts, Sg t) → Sg (textFrom k acc ts)
  | [], _, _, h, _ => h
  | t :: ts, k, acc, h, g => by
    unfold textFrom
    refine sg_from ts _ _ (sg_app (sg_app h ?_) (g t List.mem_cons_self)) fun x hx => g x (List.mem_cons_of_mem _ hx)
    exact sg_of _
theorem sg_join : ∀ (sep : Str) (ts : List Str), Sg sep → (∀ t ∈ ts, Sg t) → Sg (Str.join sep ts)
  | _, [], _, _ => fun c hc => by
    have : c ∈ (#[] : Array Nat).toList := hc
    simp at this
  | _, [x], _, g => g x List.mem_cons_self
  | sep, x :: y :: r, h, g => by
    show Sg (x ++ sep ++ Str.join sep (y :: r))
    exact sg_app (sg_app (g x List.mem_cons_self) h) (sg_join sep (y :: r) h fun t ht => g t (List.mem_cons_of_mem _ ht))
theorem sg_list {ts : List Str} (h : ∀ t ∈ ts, Sg t) : Sg (listText ts) := sg_app (sg_from ts 0 _ (sg_of "[") h) (sg_of "]")
theorem sg_tup {ts : List Str} (h : ∀ t ∈ ts, Sg t) : Sg (tupleText ts) := by
  unfold tupleText
  exact sg_app (sg_app (sg_of "(") (sg_join _ ts (sg_of ", ") h)) (sg_of _)
mutual
theorem sg_shown : ∀ d : PyData, shwE d = true → Sg d.shown
  | .none, _ => sg_of _
  | .bool b, _ => by cases b <;> exact sg_of _
  | .int i, _ => sg_of _
  | .str x, h => by
    simp only [shwE, List.all_eq_true, decide_eq_true_eq] at h
    exact sg_repr h
  | .list xs, h => by
    simp only [shwE] at h
    exact sg_list (sg_showns xs h)
  | .tuple xs, h => by
    simp only [shwE] at h
    exact sg_tup (sg_showns xs h)
  | .dict [], _ => by
    have e : (PyData.dict []).shown = Str.ofString "{}" := by decide +kernel
    rw [e]
    exact sg_of _
  | .dict (_ :: _), h => by simp only [shwE] at h; cases h
theorem sg_showns : ∀ ds : List PyData, shwsE ds = true → ∀ t ∈ PyData.shownAll ds, Sg t
  | [], _ => fun _ h => by simp only [PyData.shownAll] at h; exact nomatch h
  | d :: ds, h => fun t ht => by
    simp only [shwsE, Bool.and_eq_true] at h
    simp only [PyData.shownAll] at ht
    rcases List.mem_cons.mp ht with rfl | ht
    · exact sg_shown d h.1
    · exact sg_showns ds h.2 t ht
end
theorem shw_shown {d : PyData} (h : shwE d = true) : shwE (.str d.shown) = true := by
  simp only [shwE, List.all_eq_true, decide_eq_true_eq]
  exact sg_shown d h

/-! ### one program -/
theorem sg_word {w : Str} (h : (w.cps.toList.all fun c => decide (c < 16 ^ 8)) = true) : Sg w := fun c hc => of_decide_eq_true (List.all_eq_true.mp h c hc)
theorem sg_prog {n : Int} {ds : List PyData} {size many : Int} (h : ∀ d ∈ ds, Row size many d) : Sg (progT n ds) := by
  have line : ∀ d ∈ headD n :: ds, Sg (lineT d) := fun d hd => by
    unfold lineT
    refine sg_join _ _ (sg_of _) fun t ht => ?_
    rcases List.mem_cons.mp hd with rfl | hd
    · have e : wordsT (headD n) = [Str.ofString "program", numT n] := rfl
      rw [e] at ht
      rcases List.mem_cons.mp ht with rfl | ht
      · exact sg_of _
      · rw [List.mem_singleton.mp ht]
        exact sg_of _
    · obtain ⟨w, es, rfl, hw, _, _, o⟩ := h d hd
      simp only [wordsT, List.map_cons] at ht
      rcases List.mem_cons.mp ht with rfl | ht
      · exact sg_word (key_small hw).1
      · obtain ⟨e, he, rfl⟩ := List.mem_map.mp ht
        obtain ⟨m, rfl, _⟩ := o e he
        exact sg_of _
  unfold progT
  refine sg_join _ _ (sg_of _) fun t ht => ?_
  obtain ⟨d, hd, rfl⟩ := List.mem_map.mp ht
  exact sg_app (line d hd) (sg_of _)
theorem repr_s {K : PySem.W.Frag} {H : Hp} {Q : VK} {s : Str} (g : Sg s) (l : s.length ≤ 100000) (q : Q (.str (PyData.str s).shown) H) : rRepr K [.str s] H Q := by
  have big : (2000000 : Nat) ≤ sizeLine := by decide
  exact i_repr (.str s) (by simp only [shw, List.all_eq_true, decide_eq_true_eq]; exact g) (by simp only [PyData.depth]; omega) (by simp only [cw]; omega) q
/-- repr([size, rows]) -/
theorem repr_pd {K : PySem.W.Frag} {H : Hp} {Q : VK} {A M : Addr} {n : Int} {xs : List V} {ds : List PyData} {many : Int} (hA : H A = some (.lst [.int n, .ref M])) (hn : 1 ≤ n ∧ n ≤ 1000000000000000000) (hM : H M = some (.lst xs)) (da : DpAll K H xs ds) (r : ∀ d ∈ ds, Row n many d) (l : ds.length ≤ 20)
    (q : Q (.str (PyData.list [.int n, .list ds]).shown) H) : rReprE K [.ref A] H Q := by
  obtain ⟨a, b, c⟩ := fn_all fun d hd => (r d hd).fn
  have big : (2000000 : Nat) ≤ sizeLine := by decide
  refine i_reprE (.lst (SqL.of hA) (.cons (.int n) (.cons (.lst (SqL.of hM) (DpAll.de _ _ da)) .nil))) ?_ ?_ ?_ q
  · have e1 : shwE (.int n) = true := decide_eq_true (okI_of (by omega) (by omega))
    simp only [shwE, shwsE, Bool.and_true, Bool.and_eq_true] at e1 ⊢
    exact ⟨e1, a⟩
  · simp only [PyData.depth, PyData.depthAll]
    omega
  · simp only [cwE, cwsE]
    omega
def sp_law_right (K : PySem.W.Frag) : Sp := fun vs H Q _ => ∃ (n : Int) (R : Addr) (ds : List PyData), vs = [.int n, .ref R] ∧ LD K H R ds ∧ (1 ≤ n ∧ n ≤ 1000000000000000000) ∧ (∀ d ∈ ds, Row n ds.length d) ∧ ds.length ≤ 20 ∧ ∀ H', Kp [] H H' → Q (.bl true) H'
theorem sc_law_right : FnScope ["_law_size_here", "_law_rows_here", "_law_program", "_law_due", "_law_text_here", "_law_found"] ["_law_size_here", "_law_rows_here"] (defScope s_law_right) :=
  ⟨rfl, rfl, rfl, by decide +kernel, rfl, by decide +kernel, by decide +kernel⟩
theorem ok_law_right {P : Program} {w : World} {K : PySem.W.Frag} {mg : Str → Option Value} {base : Heap} (T : Txt w K mg) :
    FnG P w K mg base 7 T.a_law_right T.d_law_right ["_law_size_here", "_law_rows_here"] (sp_law_right K) := by
  refine okD T.F_law_right sc_law_right (fun vs H Q E h => ?_) (fun cdv A outer s H vs Q E hr h => ?_)
  · first
      | (obtain ⟨_, rfl, _⟩ := h; rfl)
      | (obtain ⟨_, _, rfl, _⟩ := h; rfl)
      | (obtain ⟨_, _, _, rfl, _⟩ := h; rfl)
      | (obtain ⟨_, _, _, _, rfl, _⟩ := h; rfl)
      | (obtain ⟨_, _, _, _, _, rfl, _⟩ := h; rfl)
      | (obtain ⟨_, _, _, _, _, _, rfl, _⟩ := h; rfl)
      | (obtain ⟨_, _, _, _, _, _, _, rfl, _⟩ := h; rfl)
      | (obtain ⟨_, _, _, _, _, _, _, _, rfl, _⟩ := h; rfl)
      | (obtain ⟨_, _, _, _, _, _, _, _, _, rfl, _⟩ := h; rfl)
      | (obtain ⟨_, _, _, _, _, _, _, _, _, _, rfl, _⟩ := h; rfl)
      | (obtain ⟨_, _, _, _, _, _, _, _, _, _, _, rfl, _⟩ := h; rfl)
      | (obtain ⟨_, _, _, _, _, _, _, _, _, _, _, _, rfl, _⟩ := h; rfl)
      | (obtain ⟨_, _, _, _, _, _, _, _, _, _, _, _, _, rfl, _⟩ := h; rfl)
      | (obtain ⟨_, _, _, _, _, _, _, _, _, _, _, _, _, _, rfl, _⟩ := h; rfl)
      | (obtain ⟨_, _, _, _, _, _, _, _, _, _, _, _, _, _, _, rfl, _⟩ := h; rfl)
      | (obtain ⟨_, _, _, _, _, _, _, _, _, _, _, _, _, _, _, _, rfl, _⟩ := h; rfl)
      | (obtain ⟨_, _, _, _, _, _, _, _, _, _, _, _, _, _, _, _, _, rfl, _⟩ := h; rfl)
      | (obtain ⟨_, _, _, _, _, _, _, _, _, _, _, _, _, _, _, _, _, _, rfl, _⟩ := h; rfl)
      | (obtain ⟨_, _, _, _, _, _, _, _, _, _, _, _, _, _, _, _, _, _, _, rfl, _⟩ := h; rfl)
  · obtain ⟨n, R, ds, rfl, ld, hn, rows, few, k⟩ := h
    obtain ⟨xs, hR, da⟩ := id ld
    have lxs := dpa_len da
    have im := rows_imm rows
    have w : whD (.int n) 1 1000000000000000000 = true := decide_eq_true hn
    have b : badAt ds n = none := bad_none fun d hd => (rows d hd).choose_spec.choose_spec.2.2.2.1
    have wr : ∀ d ∈ headD n :: ds, WRow d := fun d hd => by
      rcases List.mem_cons.mp hd with rfl | hd
      · exact head_w hn
      · exact (rows d hd).w
    have lp : (progT n ds).length ≤ 100000 := by
      have := progT_len wr
      omega
    have sg := sg_prog (n := n) rows
    obtain ⟨sh, cl⟩ := pdat_ok (n := n) rows
    have cl_Program := T.cl_Program
    have na_Program_own_rows := T.na_Program_own_rows
    have na_Program_own_size := T.na_Program_own_size
    refine ⟨_, (pss_cons (ps_par (i := 2) (j := 3) (by rfl) sc_law_right.nd rfl rfl (by decide) rfl rfl (pa_cons (mkX T.mk_Program (ok_Program_init T) (hr.mono (by decide)) (by rfl) T.mg_Program T.b_Program_init (passAt (takes_of rfl rfl rfl rfl)) (pa_cons (pv 0) (pa_cons (pe_callTy (k_list (K := K) rfl) (by rfl) T.n_list (by decide +kernel) (pa_cons (pv 1) pa_nil)) pa_nil))) (pa_cons (d1 (ok_law_text T) (hr.mono (by decide)) (by rfl) T.m_law_text T.F_law_text.kp T.b_law_text passL (pa_cons (pv 0) (pa_cons (pv 1) pa_nil))) pa_nil)) (by rfl))
      (pss_cons (ps_set (i := 4) sc_law_right.nd rfl (Or.inl rfl) (d1 (ok_program_text T) (hr.mono (by decide)) (by rfl) T.m_program_text T.F_program_text.kp T.b_program_text passL (pa_cons (pv 2) pa_nil)))
      (pss_cons (ps_if (pt_cmpR (k_ne (K := K) rfl hr.r.units) (pe_callB (k_repr (K := K) rfl hr.g hr.r.units) (by rfl) T.n_repr (by decide +kernel) (pa_cons (pv 4) pa_nil)) (pe_callB (k_repr (K := K) rfl hr.g hr.r.units) (by rfl) T.n_repr (by decide +kernel) (pa_cons (pv 3) pa_nil)) (nomark _)) (pss_one (ps_ret pe_bl)) pss_nil)
      (pss_cons (ps_set (i := 5) sc_law_right.nd rfl (Or.inl rfl) (d1 (ok_read_program T) (hr.mono (by decide)) (by rfl) T.m_read_program T.F_read_program.kp T.b_read_program passL (pa_cons (pv 4) pa_nil)))
      (pss_cons (ps_if (PW.pt (pw_or (pt_not (pt_val (pe_callB (k_isi (K := K) rfl) (by rfl) T.n_isinstance (by decide +kernel) (pa_cons (pv 5) (pa_cons (pe_glob (v := .ref T.c_Program) rfl T.mg_Program rfl) pa_nil))))) (pw_or (pt_cmpR (k_neM (K := K) rfl T.me_Program_eq T.ne_Program T.ic_Program.hm (ok_Program_eq T) (hr.mono (by decide)) T.b_Program_eq passL) (pv 5) (pv 2) (nomark _)) (pw_or1 (pt_cmpR (k_ne (K := K) rfl hr.r.units) (pe_callB (k_reprE (K := K) rfl hr.g hr.r.units) (by rfl) T.n_repr (by decide +kernel) (pa_cons (pe_lst (pa_cons (dm0 T.cl_Program T.me_Program_size (ok_Program_size T) (hr.mono (by decide)) T.b_Program_size passL (pv 5)) (pa_cons (dm0 T.cl_Program T.me_Program_rows (ok_Program_rows T) (hr.mono (by decide)) T.b_Program_rows passL (pv 5)) pa_nil))) pa_nil)) (pe_callB (k_reprE (K := K) rfl hr.g hr.r.units) (by rfl) T.n_repr (by decide +kernel) (pa_cons (pe_lst (pa_cons (pv 0) (pa_cons (pv 1) pa_nil))) pa_nil)) (nomark _)))))) (pss_one (ps_ret pe_bl)) pss_nil)
      (pss_cons (ps_expr (pe_bm0 PySem.F.plainAttrs_list PySem.F.slot_list_clear PySem.F.type_list_clear mt_clear (dm0 T.cl_Program T.me_Program_rows (ok_Program_rows T) (hr.mono (by decide)) T.b_Program_rows passL (pv 5))))
      (pss_one (ps_ret (pe_and (pe_cmpR (k_eq (K := K) rfl hr.r.units) (d1 (ok_program_text T) (hr.mono (by decide)) (by rfl) T.m_program_text T.F_program_text.kp T.b_program_text passL (pa_cons (pv 5) pa_nil)) (pv 3) (nomark _)) (pe_one (pe_cmpR (k_eq (K := K) rfl hr.r.units) (d1 (ok_program_text T) (hr.mono (by decide)) (by rfl) T.m_program_text T.F_program_text.kp T.b_program_text passL (pa_cons (pv 2) pa_nil)) (pv 3) (nomark _)))))))))))), ?_⟩
    dsimp only [cxOf, st_1, st_2, st_3, st_4, st_5, st_6, List.length_cons, List.length_nil, List.replicate_succ, List.replicate_zero, Nat.reduceAdd, Nat.reduceSub]
    walk_at "gs"
    refine i_mkX ?_
    walk_at "gs"
    refine i_new fun A fA => ?_
    have kA : Kp [] H (upd H A (.lst xs)) := Kp.new fA
    have hA : (upd H A (.lst xs)) A = some (.lst xs) := upd_same
    obtain ⟨H1, e1⟩ : ∃ H1, H1 = upd H A (.lst xs) := ⟨_, rfl⟩
    rw [← e1] at kA hA ⊢
    have da1 := dpa_imm kA _ _ im da
    walk_at "gs"
    refine mk_prog hA (rowsV_of da1 rows) (by omega) w b fun p1 L1 H2 fp1 fL1 n1 k2 P1 => ?_
    have k02 := Kp.trans kA k2
    walk_at "gs"
    refine ⟨n, R, ds, rfl, ld.kp k02 im not_nil, hn, rows, by omega, fun H3 k3 => ?_⟩
    obtain ⟨tx, etx⟩ : ∃ tx, tx = progT n ds := ⟨_, rfl⟩
    rw [← etx]
    have k03 := Kp.trans k02 k3
    have P3 := P1.kp0 k3
    have da3 := dpa_imm k03 _ _ im da
    walk_at "gs"
    refine ⟨p1, L1, n, xs, ds, rfl, P3, hn, da3, rows, by omega, fun H4 k4 => ?_⟩
    rw [← etx]
    have k04 := Kp.trans k03 k4
    walk_at "gs"
    have sgx : Sg tx := by rw [etx]; exact sg
    have lpx : tx.length ≤ 100000 := by rw [etx]; exact lp
    refine repr_s sgx lpx ?_
    walk_at "gs"
    refine repr_s sgx lpx ?_
    obtain ⟨z1, ez1⟩ : ∃ z1, z1 = (PyData.str tx).shown := ⟨_, rfl⟩
    rw [← ez1]
    walk_at "gs"
    refine ⟨n, ds, by rw [etx], hn, rows, by omega, fun p2 L2 ys H5 fp2 fL2 np2 k5 P2 dy => ?_⟩
    have P15 := P3.kp0 (Kp.trans k4 k5)
    have k05 := Kp.trans k04 k5
    have da5 := dpa_imm k05 _ _ im da
    obtain ⟨dx2, hp2, hL2⟩ := id P2
    walk_at "gs"
    refine ⟨_, _, _, _, _, rfl, .own _, ty_prog T.ic_Program P2, T.ic_Program.me, ?_⟩
    walk_at "gs"
    refine i_cmpM hp2 (ty_prog T.ic_Program P15) nf_tie ⟨p2, L2, n, ys, .ref p1, rfl, P2, .inl ⟨p1, L1, n, xs, ds, ds, rfl, P15, dy, da5, sh, sh, im, im, fun H6 k6 => ⟨_, rfl, ?_⟩⟩⟩
    rw [PySem.SeqAt.eqv_refl _ cl]
    have P26 := P2.kp0 k6
    have hp6 := k6.at_ _ _ hp2 not_nil
    have dy6 := dpa_imm k6 _ _ im dy
    walk_at "gs"
    refine ⟨p2, L2, n, ys, rfl, P26, ?_⟩
    walk_at "gs"
    refine ⟨p2, L2, n, ys, rfl, P26, fun M fM => ?_⟩
    have kM : Kp [] H6 (upd H6 M (.lst ys)) := Kp.new fM
    have hM : (upd H6 M (.lst ys)) M = some (.lst ys) := upd_same
    obtain ⟨H7, e7⟩ : ∃ H7, H7 = upd H6 M (.lst ys) := ⟨_, rfl⟩
    rw [← e7] at kM hM ⊢
    walk_at "gs"
    refine i_new fun B fB => ?_
    have kB : Kp [] H7 (upd H7 B (.lst [V.int n, V.ref M])) := Kp.new fB
    have hB : (upd H7 B (.lst [V.int n, V.ref M])) B = some (.lst [V.int n, V.ref M]) := upd_same
    obtain ⟨H8, e8⟩ : ∃ H8, H8 = upd H7 B (.lst [V.int n, V.ref M]) := ⟨_, rfl⟩
    rw [← e8] at kB hB ⊢
    have k68 := Kp.trans kM kB
    walk_at "gs"
    refine repr_pd hB hn (kB.at_ _ _ hM not_nil) (dpa_imm k68 _ _ im dy6) rows few ?_
    obtain ⟨z2, ez2⟩ : ∃ z2, z2 = (PyData.list [.int n, .list ds]).shown := ⟨_, rfl⟩
    rw [← ez2]
    walk_at "gs"
    refine i_new fun C fC => ?_
    have kC : Kp [] H8 (upd H8 C (.lst [V.int n, V.ref R])) := Kp.new fC
    have hC : (upd H8 C (.lst [V.int n, V.ref R])) C = some (.lst [V.int n, V.ref R]) := upd_same
    obtain ⟨H9, e9⟩ : ∃ H9, H9 = upd H8 C (.lst [V.int n, V.ref R]) := ⟨_, rfl⟩
    rw [← e9] at kC hC ⊢
    have k69 := Kp.trans k68 kC
    have k09 : Kp [] H H9 := Kp.trans k05 (Kp.trans k6 k69)
    walk_at "gs"
    refine repr_pd hC hn (k09.at_ _ _ hR not_nil) (dpa_imm k09 _ _ im da) rows few ?_
    rw [← ez2]
    have P29 := P26.kp0 k69
    have hp9 := k69.at_ _ _ hp6 not_nil
    walk_at "gs"
    refine ⟨p2, L2, n, ys, rfl, P29, fun M2 fM2 => ?_⟩
    walk_at "gs"
    refine ⟨M2, _, rfl, rfl, upd_same, ?_⟩
    obtain ⟨H10, e10⟩ : ∃ H10, H10 = upd (upd H9 M2 (.lst ys)) M2 (.lst []) := ⟨_, rfl⟩
    have k910 : Kp [] H9 H10 := by
      rw [e10]
      exact Kp.upd (Kp.new fM2) fM2
    rw [← e10]
    have k610 := Kp.trans k69 k910
    walk_at "gs"
    refine ⟨p2, L2, n, ys, ds, rfl, P26.kp0 k610, hn, dpa_imm k610 _ _ im dy6, rows, by omega, fun H11 k11 => ?_⟩
    rw [← etx]
    walk_at "gs"
    rw [decide_eq_true (rfl : tx = tx)]
    refine iteT ?_
    walk_at "gs"
    have k511 := Kp.trans k6 (Kp.trans k610 k11)
    refine ⟨p1, L1, n, xs, ds, rfl, P15.kp0 k511, hn, dpa_imm k511 _ _ im da5, rows, by omega, fun H12 k12 => ?_⟩
    rw [← etx]
    walk_at "gs"
    rw [decide_eq_true (rfl : tx = tx)]
    exact k H12 (Kp.trans k05 (Kp.trans k511 k12))

def sp_law_both (K : PySem.W.Frag) : Sp := fun vs H Q _ => ∃ p : Addr, vs = [.ref p] ∧ PotAt H p ∧ ∀ H', PotAt H' p → Kp [p] H H' → Q (.bl true) H'
theorem sc_law_both : FnScope ["_law_pot_here", "_law_size_here", "_law_rows_here", "_law_far", "_law_others"] ["_law_pot_here"] (defScope s_law_both) :=
  ⟨rfl, rfl, rfl, by decide +kernel, rfl, by decide +kernel, by decide +kernel⟩
theorem ok_law_both {P : Program} {w : World} {K : PySem.W.Frag} {mg : Str → Option Value} {base : Heap} (T : Txt w K mg) :
    FnG P w K mg base 8 T.a_law_both T.d_law_both ["_law_pot_here"] (sp_law_both K) := by
  refine okD T.F_law_both sc_law_both (fun vs H Q E h => ?_) (fun cdv A outer s H vs Q E hr h => ?_)
  · first
      | (obtain ⟨_, rfl, _⟩ := h; rfl)
      | (obtain ⟨_, _, rfl, _⟩ := h; rfl)
      | (obtain ⟨_, _, _, rfl, _⟩ := h; rfl)
      | (obtain ⟨_, _, _, _, rfl, _⟩ := h; rfl)
      | (obtain ⟨_, _, _, _, _, rfl, _⟩ := h; rfl)
      | (obtain ⟨_, _, _, _, _, _, rfl, _⟩ := h; rfl)
      | (obtain ⟨_, _, _, _, _, _, _, rfl, _⟩ := h; rfl)
      | (obtain ⟨_, _, _, _, _, _, _, _, rfl, _⟩ := h; rfl)
      | (obtain ⟨_, _, _, _, _, _, _, _, _, rfl, _⟩ := h; rfl)
      | (obtain ⟨_, _, _, _, _, _, _, _, _, _, rfl, _⟩ := h; rfl)
      | (obtain ⟨_, _, _, _, _, _, _, _, _, _, _, rfl, _⟩ := h; rfl)
      | (obtain ⟨_, _, _, _, _, _, _, _, _, _, _, _, rfl, _⟩ := h; rfl)
      | (obtain ⟨_, _, _, _, _, _, _, _, _, _, _, _, _, rfl, _⟩ := h; rfl)
      | (obtain ⟨_, _, _, _, _, _, _, _, _, _, _, _, _, _, rfl, _⟩ := h; rfl)
      | (obtain ⟨_, _, _, _, _, _, _, _, _, _, _, _, _, _, _, rfl, _⟩ := h; rfl)
      | (obtain ⟨_, _, _, _, _, _, _, _, _, _, _, _, _, _, _, _, rfl, _⟩ := h; rfl)
      | (obtain ⟨_, _, _, _, _, _, _, _, _, _, _, _, _, _, _, _, _, rfl, _⟩ := h; rfl)
      | (obtain ⟨_, _, _, _, _, _, _, _, _, _, _, _, _, _, _, _, _, _, rfl, _⟩ := h; rfl)
      | (obtain ⟨_, _, _, _, _, _, _, _, _, _, _, _, _, _, _, _, _, _, _, rfl, _⟩ := h; rfl)
  · obtain ⟨p, rfl, hp, k⟩ := h
    refine ⟨_, (pss_cons (ps_set (i := 1) sc_law_both.nd rfl (Or.inl rfl) (d1 (ok_law_size T) (hr.mono (by decide)) (by rfl) T.m_law_size T.F_law_size.kp T.b_law_size passL (pa_cons (pv 0) pa_nil)))
      (pss_cons (ps_set (i := 2) sc_law_both.nd rfl (Or.inl rfl) (d1 (ok_law_rows T) (hr.mono (by decide)) (by rfl) T.m_law_rows T.F_law_rows.kp T.b_law_rows passL (pa_cons (pv 0) (pa_cons (pv 1) (pa_cons (d1 (ok_law_draw T) (hr.mono (by decide)) (by rfl) T.m_law_draw T.F_law_draw.kp T.b_law_draw passL (pa_cons (pv 0) (pa_cons pe_int pa_nil))) (pa_cons pe_bl (pa_cons pe_int pa_nil)))))))
      (pss_cons (ps_set (i := 3) sc_law_both.nd rfl (Or.inl rfl) (pe_op o_mul (pe_ix (k_ix (K := K) rfl) (pe_lst (pa_cons pe_int (pa_cons (pe_un un_neg pe_int) pa_nil))) (d1 (ok_law_draw T) (hr.mono (by decide)) (by rfl) T.m_law_draw T.F_law_draw.kp T.b_law_draw passL (pa_cons (pv 0) (pa_cons pe_int pa_nil))) (fun _ _ => rfl)) (d1 (ok_law_draw T) (hr.mono (by decide)) (by rfl) T.m_law_draw T.F_law_draw.kp T.b_law_draw passL (pa_cons (pv 0) (pa_cons (pe_op o_pow pe_int pe_int) pa_nil)))))
      (pss_cons (ps_set (i := 4) sc_law_both.nd rfl (Or.inl rfl) (pe_op (k_add (K := K) rfl) (pv 2) (pe_lst (pa_cons (pe_tup (pa_cons pe_str (pa_cons (pe_op op_sub (pv 1) pe_int) (pa_cons (pv 3) pa_nil)))) pa_nil))))
      (pss_cons (ps_if (PW.pt (pw_or (pt_not (pt_val (d1 (ok_law_right T) (hr.mono (by decide)) (by rfl) T.m_law_right T.F_law_right.kp T.b_law_right passL (pa_cons (pv 1) (pa_cons (pv 2) pa_nil))))) (pw_or (pt_not (pt_val (d1 (ok_law_right T) (hr.mono (by decide)) (by rfl) T.m_law_right T.F_law_right.kp T.b_law_right passL (pa_cons (pv 1) (pa_cons (pv 4) pa_nil))))) (pw_or1 (pt_not (pt_val (d1 (ok_law_right T) (hr.mono (by decide)) (by rfl) T.m_law_right T.F_law_right.kp T.b_law_right passL (pa_cons (pv 1) (pa_cons (pv 2) pa_nil))))))))) (pss_one (ps_ret pe_bl)) pss_nil)
      (pss_one (ps_ret (pe_cmpR (k_neM (K := K) rfl T.me_Program_eq T.ne_Program T.ic_Program.hm (ok_Program_eq T) (hr.mono (by decide)) T.b_Program_eq passL) (d1 (ok_read_program T) (hr.mono (by decide)) (by rfl) T.m_read_program T.F_read_program.kp T.b_read_program passL (pa_cons (d1 (ok_law_text T) (hr.mono (by decide)) (by rfl) T.m_law_text T.F_law_text.kp T.b_law_text passL (pa_cons (pv 1) (pa_cons (pv 2) pa_nil))) pa_nil)) (mkX T.mk_Program (ok_Program_init T) (hr.mono (by decide)) (by rfl) T.mg_Program T.b_Program_init (passAt (takes_of rfl rfl rfl rfl)) (pa_cons (pv 1) (pa_cons (pv 4) pa_nil))) (nomark _))))))))), ?_⟩
    dsimp only [cxOf, st_1, st_2, st_3, st_4, st_5, st_6, List.length_cons, List.length_nil, List.replicate_succ, List.replicate_zero, Nat.reduceAdd, Nat.reduceSub]
    walk_at "gs"
    refine ⟨p, rfl, hp, fun n H1 hn hp1 k1 => ?_⟩
    walk_at "gs"
    refine use_draw hp1 (by decide) (by decide) (fun many H2 m0 m1 hp2 k2 => ?_)
    walk_at "gs"
    refine ⟨p, n, many, 12, false, rfl, hp2, hn, ⟨m0, by omega⟩, fun R ds H3 fR hp3 k3 ld lds rows0 fwd fk => ?_⟩
    have rows : ∀ d ∈ ds, Row n ds.length d := fun d hd => by
      rw [show (ds.length : Int) = many from lds]
      exact rows0 d hd
    have nRp : R ≠ p := Ne.symm (hp2.ne fR)
    have few : ds.length ≤ 12 := by omega
    have k03 : Kp [p] H H3 := Kp.trans k1 (Kp.trans k2 k3)
    have im := rows_imm rows
    walk_at "gs"
    refine i_new fun M fM => ?_
    have kM : Kp [] H3 (upd H3 M (.lst [V.int 1, V.int (-1)])) := Kp.new fM
    have nMp : M ≠ p := Ne.symm (hp3.ne fM)
    walk_at "gs"
    refine use_draw (hp3.kp kM not_nil) (by decide) (by decide) (fun m H4 q0 q1 hp4 k4 => ?_)
    have hM4 : H4 M = some (.lst [V.int 1, V.int (-1)]) := k4.at_ _ _ upd_same (not_one nMp)
    obtain ⟨y, hat, hy⟩ : ∃ y : Int, atI [V.int 1, V.int (-1)] m = some (.int y) ∧ (y = 1 ∨ y = -1) := by
      obtain ⟨m', rfl⟩ := Int.eq_ofNat_of_zero_le q0
      have e : m' = 0 ∨ m' = 1 := by omega
      rcases e with rfl | rfl
      · exact ⟨_, rfl, .inl rfl⟩
      · exact ⟨_, rfl, .inr rfl⟩
    walk_at "gs"
    refine use_draw hp4 (by decide) (by decide) (fun z H5 z0 z1 hp5 k5 => ?_)
    have k35 : Kp [p] H3 H5 := Kp.trans kM.wide (Kp.trans k4 k5)
    obtain ⟨fz, efz, ofz⟩ : ∃ fz : Int, y * z = fz ∧ okN fz := by
      refine ⟨_, rfl, ?_⟩
      rcases hy with rfl | rfl
      · exact ⟨by omega, by omega⟩
      · exact ⟨by omega, by omega⟩
    walk_at "gs"
    rw [efz]
    refine i_new fun t ft => ?_
    walk_at "gs"
    refine i_new fun L fL => ?_
    have ld5 := ld.kp k35 im (not_one nRp)
    obtain ⟨xs5, hR5, da5⟩ := id ld5
    have lx5 := dpa_len da5
    obtain ⟨H6, e6⟩ : ∃ H6, H6 = upd (upd H5 t (.tup [V.str (Str.ofString "put"), V.int (n - 1), V.int fz])) L (.lst [V.ref t]) := ⟨_, rfl⟩
    have k56 : Kp [] H5 H6 := by
      rw [e6]
      exact Kp.trans (Kp.new ft) (Kp.new fL)
    have htt : SqT K H6 t [V.str (Str.ofString "put"), V.int (n - 1), V.int fz] := by
      rw [e6]
      walk_at "g_st"
    have hL6 : H6 L = some (.lst [V.ref t]) := by
      rw [e6]
      exact upd_same
    rw [← e6]
    have hR6 := k56.at_ _ _ hR5 not_nil
    have da6 := dpa_imm k56 _ _ im da5
    walk_at "gs"
    try refine i_addL hR6 hL6 (by rw [List.length_singleton]; omega) ?_
    refine i_new fun O fO => ?_
    have kO : Kp [] H6 (upd H6 O (.lst (xs5 ++ [V.ref t]))) := Kp.new fO
    obtain ⟨H7, e7⟩ : ∃ H7, H7 = upd H6 O (.lst (xs5 ++ [V.ref t])) := ⟨_, rfl⟩
    have hO7 : H7 O = some (.lst (xs5 ++ [V.ref t])) := by
      rw [e7]
      exact upd_same
    rw [← e7] at kO ⊢
    have k37 : Kp [p] H3 H7 := Kp.trans k35 (Kp.trans k56 kO).wide
    have hp7 := hp5.kp (Kp.trans k56 kO) not_nil
    have ld7 := ld5.kp (Kp.trans k56 kO) im not_nil
    have l2 : (ds ++ [PyData.tuple [.str "put", .int (n - 1), .int fz]]).length = ds.length + 1 := by rw [List.length_append]; rfl
    have rows2 : ∀ d ∈ ds ++ [PyData.tuple [.str "put", .int (n - 1), .int fz]], Row n (ds ++ [PyData.tuple [.str "put", .int (n - 1), .int fz]]).length d := fun d hd => by
      rw [l2]
      rcases List.mem_append.mp hd with hd | hd
      · exact (rows d hd).mono (Int.le_refl _) (by omega)
      · rw [List.mem_singleton.mp hd]
        exact row_cn (by decide +kernel) (by decide +kernel) ⟨by omega, by omega⟩ ofz hn.2
    have im2 := rows_imm rows2
    have lo7 : LD K H7 O (ds ++ [PyData.tuple [.str "put", .int (n - 1), .int fz]]) := ⟨_, hO7, dpa_app (dpa_imm kO _ _ im da6) (.cons (.tup (kO.seqT htt) (.cons (.str _) (.cons (.int _) (.cons (.int _) .nil)))) .nil)⟩
    walk_at "gs"
    refine ⟨n, R, ds, rfl, ld7, hn, rows, by omega, fun H8 k8 => ?_⟩
    have lo8 := lo7.kp k8 im2 not_nil
    walk_at "gs"
    refine ⟨n, O, _, rfl, lo8, hn, rows2, by rw [l2]; omega, fun H9 k9 => ?_⟩
    have k79 := Kp.trans k8 k9
    have ld9 := ld7.kp k79 im not_nil
    walk_at "gs"
    refine ⟨n, R, ds, rfl, ld9, hn, rows, by omega, fun H10 k10 => ?_⟩
    have k710 := Kp.trans k79 k10
    have ld10 := ld7.kp k710 im not_nil
    walk_at "gs"
    refine ⟨n, R, ds, rfl, ld10, hn, rows, by omega, fun H11 k11 => ?_⟩
    walk_at "gs"
    refine ⟨n, ds, rfl, hn, rows, by omega, fun p1 L1 ys H12 fp1 fL1 np1 k12 P1 dy => ?_⟩
    have k712 := Kp.trans k710 (Kp.trans k11 k12)
    obtain ⟨xo, hO12, dao⟩ := lo7.kp k712 im2 not_nil
    have lxo := dpa_len dao
    walk_at "gs"
    refine i_mkX ?_
    walk_at "gs"
    have w1 : whD (.int n) 1 1000000000000000000 = true := decide_eq_true hn
    have b1 : badAt (ds ++ [PyData.tuple [.str "put", .int (n - 1), .int fz]]) n = none := bad_none fun d hd => (rows2 d hd).choose_spec.choose_spec.2.2.2.1
    refine mk_prog hO12 (rowsV_of dao rows2) (by rw [lxo, l2]; omega) w1 b1 fun p2 L2 H13 fp2 fL2 np2 k13 PM => ?_
    have P13 := P1.kp0 k13
    obtain ⟨dx1, hp13, _⟩ := id P13
    obtain ⟨sh1, _⟩ := pdat_ok (n := n) rows
    obtain ⟨sh2, _⟩ := pdat_ok (n := n) rows2
    walk_at "gs"
    refine i_cmpM hp13 (ty_prog T.ic_Program PM) nf_tie ⟨p1, L1, n, ys, .ref p2, rfl, P13, .inl ⟨p2, L2, n, xo, ds, _, rfl, PM, dpa_imm k13 _ _ im dy, dpa_imm k13 _ _ im2 dao, sh1, sh2, im, im2, fun H14 k14 => ⟨_, rfl, ?_⟩⟩⟩
    rw [eqv_pdat_len (by rw [l2]; omega)]
    have k714 := Kp.trans k712 (Kp.trans k13 k14)
    exact k H14 (hp7.kp k714 not_nil) (Kp.trans k03 (Kp.trans k37 k714.wide))
def sp_law (K : PySem.W.Frag) : Sp := fun vs H Q _ => ∃ (a : Addr) (ns : List Int),
  vs = [.ref a] ∧ SqL K H a (ns.map V.int) ∧ ns.length ≤ 63 ∧ ∀ H', Q (.bl true) H'
theorem sc_law : FnScope ["_law_script", "_law_k"] ["_law_script"] (defScope s_law) :=
  ⟨rfl, rfl, rfl, by decide +kernel, rfl, by decide +kernel, by decide +kernel⟩
theorem ok_law {P : Program} {w : World} {K : PySem.W.Frag} {mg : Str → Option Value} {base : Heap} (T : Txt w K mg) :
    FnG P w K mg base 9 T.a_law T.d_law ["_law_script"] (sp_law K) := by
  refine okD T.F_law sc_law (fun vs H Q E h => ?_) (fun cdv A outer s H vs Q E hr h => ?_)
  · first
      | (obtain ⟨_, rfl, _⟩ := h; rfl)
      | (obtain ⟨_, _, rfl, _⟩ := h; rfl)
      | (obtain ⟨_, _, _, rfl, _⟩ := h; rfl)
      | (obtain ⟨_, _, _, _, rfl, _⟩ := h; rfl)
      | (obtain ⟨_, _, _, _, _, rfl, _⟩ := h; rfl)
      | (obtain ⟨_, _, _, _, _, _, rfl, _⟩ := h; rfl)
      | (obtain ⟨_, _, _, _, _, _, _, rfl, _⟩ := h; rfl)
      | (obtain ⟨_, _, _, _, _, _, _, _, rfl, _⟩ := h; rfl)
      | (obtain ⟨_, _, _, _, _, _, _, _, _, rfl, _⟩ := h; rfl)
      | (obtain ⟨_, _, _, _, _, _, _, _, _, _, rfl, _⟩ := h; rfl)
      | (obtain ⟨_, _, _, _, _, _, _, _, _, _, _, rfl, _⟩ := h; rfl)
      | (obtain ⟨_, _, _, _, _, _, _, _, _, _, _, _, rfl, _⟩ := h; rfl)
      | (obtain ⟨_, _, _, _, _, _, _, _, _, _, _, _, _, rfl, _⟩ := h; rfl)
      | (obtain ⟨_, _, _, _, _, _, _, _, _, _, _, _, _, _, rfl, _⟩ := h; rfl)
      | (obtain ⟨_, _, _, _, _, _, _, _, _, _, _, _, _, _, _, rfl, _⟩ := h; rfl)
      | (obtain ⟨_, _, _, _, _, _, _, _, _, _, _, _, _, _, _, _, rfl, _⟩ := h; rfl)
      | (obtain ⟨_, _, _, _, _, _, _, _, _, _, _, _, _, _, _, _, _, rfl, _⟩ := h; rfl)
      | (obtain ⟨_, _, _, _, _, _, _, _, _, _, _, _, _, _, _, _, _, _, rfl, _⟩ := h; rfl)
      | (obtain ⟨_, _, _, _, _, _, _, _, _, _, _, _, _, _, _, _, _, _, _, rfl, _⟩ := h; rfl)
  · obtain ⟨s, ns, rfl, hsq, hns, k⟩ := h
    refine ⟨_, (pss_cons (ps_if (PW.pt (pw_or (pt_not (pt_val (d1 (ok_law_right T) (hr.mono (by decide)) (by rfl) T.m_law_right T.F_law_right.kp T.b_law_right passL (pa_cons (pe_op o_pow pe_int pe_int) (pa_cons (pe_lst pa_nil) pa_nil))))) (pw_or1 (pt_not (pt_val (d1 (ok_law_right T) (hr.mono (by decide)) (by rfl) T.m_law_right T.F_law_right.kp T.b_law_right passL (pa_cons pe_int (pa_cons (pe_lst (pa_cons (pe_tup (pa_cons pe_str pa_nil)) (pa_cons (pe_tup (pa_cons pe_str pa_nil)) (pa_cons (pe_tup (pa_cons pe_str (pa_cons pe_int pa_nil))) pa_nil)))) pa_nil)))))))) (pss_one (ps_ret pe_bl)) pss_nil)
      (pss_one (ps_ret (pe_callB (k_all (K := K) rfl rfl) (by rfl) T.n_all (by decide +kernel) (pa_cons (pe_lc (own := [("_law_k", 1)]) (g := (gName 1)) (tt := tYes) rfl sc_law.nd (pi_range1 (by rfl) T.n_range (pa_cons (pe_callB (c_max2 rfl) (by rfl) T.n_max (by decide +kernel) (pa_cons pe_int (pa_cons (pe_callB (c_min2 rfl) (by rfl) T.n_min (by decide +kernel) (pa_cons pe_int (pa_cons (pe_callB (k_len (K := K) rfl) (by rfl) T.n_len (by decide +kernel) (pa_cons (pv 0) pa_nil)) pa_nil))) pa_nil))) pa_nil)) (blkOk_by (own := [("_law_k", 1)]) (N := ["_law_script", "_law_k"]) (sc := defScope s_law) (by decide +kernel)) (fun _ _ _ _ _ => (pg_name (i := 1) sc_law.nd rfl (Or.inl rfl))) (fun _ _ _ _ _ => pts_nil) (fun _ _ _ _ _ => (d1 (ok_law_both T) (hr.mono (by decide)) (by rfl) T.m_law_both T.F_law_both.kp T.b_law_both passL (pa_cons (d1 (ok_law_pot T) (hr.mono (by decide)) (by rfl) T.m_law_pot T.F_law_pot.kp T.b_law_pot passL (pa_cons (pv 0) (pa_cons (pv 1) pa_nil))) pa_nil)))) pa_nil))))), ?_⟩
    dsimp only [cxOf, st_1, st_2, st_3, st_4, st_5, st_6, List.length_cons, List.length_nil, List.replicate_succ, List.replicate_zero, Nat.reduceAdd, Nat.reduceSub]
    walk_at "gs"
    refine i_new fun E fE => ?_
    have kE : Kp [] H (upd H E (.lst [])) := Kp.new fE
    have ldE : LD K (upd H E (.lst [])) E [] := ⟨[], upd_same, .nil⟩
    obtain ⟨H1, e1⟩ : ∃ H1, H1 = upd H E (.lst []) := ⟨_, rfl⟩
    rw [← e1] at kE ldE ⊢
    walk_at "gs"
    refine ⟨1000000000000000000, E, [], rfl, ldE, by decide, fun _ h => (nomatch h), by decide, fun H2 k2 => ?_⟩
    have k02 := Kp.trans kE k2
    walk_at "gs"
    refine i_new fun t1 f1 => ?_
    walk_at "gs"
    refine i_new fun t2 f2 => ?_
    walk_at "gs"
    refine i_new fun t3 f3 => ?_
    walk_at "gs"
    refine i_new fun L fL => ?_
    obtain ⟨H3, e3⟩ : ∃ H3, H3 = upd (upd (upd (upd H2 t1 (.tup [V.str (Str.ofString "fail")])) t2 (.tup [V.str (Str.ofString "done")])) t3 (.tup [V.str (Str.ofString "fork"), V.int 3])) L (.lst [V.ref t1, V.ref t2, V.ref t3]) := ⟨_, rfl⟩
    have k23 : Kp [] H2 H3 := by
      rw [e3]
      walk_at "g_kp"
    have g1 : SqT K H3 t1 [V.str (Str.ofString "fail")] := by
      rw [e3]
      walk_at "g_st"
    have g2 : SqT K H3 t2 [V.str (Str.ofString "done")] := by
      rw [e3]
      walk_at "g_st"
    have g3 : SqT K H3 t3 [V.str (Str.ofString "fork"), V.int 3] := by
      rw [e3]
      walk_at "g_st"
    have gL : H3 L = some (.lst [V.ref t1, V.ref t2, V.ref t3]) := by
      rw [e3]
      exact upd_same
    rw [← e3]
    have ld3 : LD K H3 L [.tuple [.str "fail"], .tuple [.str "done"], .tuple [.str "fork", .int 3]] := ⟨_, gL, .cons (.tup g1 (.cons (.str _) .nil)) (.cons (.tup g2 (.cons (.str _) .nil)) (.cons (.tup g3 (.cons (.str _) (.cons (.int _) .nil))) .nil))⟩
    walk_at "gs"
    refine ⟨1, L, _, rfl, ld3, by decide, fun d hd => ?_, by decide, fun H4 k4 => ?_⟩
    · simp only [List.mem_cons, List.not_mem_nil, or_false] at hd
      rcases hd with rfl | rfl | rfl
      · exact row_0 (by decide +kernel) (by decide +kernel)
      · exact row_0 (by decide +kernel) (by decide +kernel)
      · exact row_r (by decide +kernel) (by decide +kernel) (by decide) (by decide)
    have k04 := Kp.trans k02 (Kp.trans k23 k4)
    walk_at "gs"
    rw [List.length_map]
    refine i_reps (by omega) (by omega) (fun D i H' => Kp [] H H' ∧ H' D = some (.lst ((List.replicate i true).map V.bl))) ?_ ?_ ?_
    · intro D fD
      exact ⟨Kp.trans k04 (Kp.new fD), upd_same⟩
    · rintro D i H' fD hi ⟨kp, hD⟩
      walk_at "gs"
      refine ⟨s, ns, i, rfl, kp.seqL not_nil hsq, by omega, fun p H1 hp k1 hpot => ?_⟩
      have hD1 := k1.at_ _ _ hD not_nil
      walk_at "gs"
      refine ⟨p, rfl, hpot, fun H2 hp2 k2 => ?_⟩
      have nDp : D ≠ p := fr_ne hD hp
      have hD2 := k2.at_ _ _ hD1 (not_one nDp)
      have k02 : Kp [] H' H2 := Kp.drop (Kp.trans k1.wide k2) hp
      refine ⟨_, hD2, small_sz (by rw [List.length_map, List.length_replicate]; omega), Kp.upd (Kp.trans kp k02) (k04.free fD), ?_⟩
      have e : (List.replicate (i + 1) true).map V.bl = (List.replicate i true).map V.bl ++ [V.bl true] := by
        rw [List.replicate_succ', List.map_append]
        rfl
      rw [e]
      exact upd_same
    rintro D H' fD ⟨kp, hD⟩
    walk_at "gs"
    refine i_all (SqL.of hD) ?_
    rw [all_rep]
    exact k _
theorem law_end {K : PySem.W.Frag} {H : Hp} {a : Addr} {ns : List Int} (hl : ns.length ≤ 63)
    (_ : ∀ z ∈ ns, Builtin.Int.intBits z ≤ 1048576) (_ : Only H) (hs : SqL K H a (ns.map V.int)) :
    sp_law K [.ref a] H (fun v _ => v = .bl true) fun _ _ _ => False :=
  ⟨a, ns, rfl, hs, hl, fun _ => rfl⟩

/-- the end of a law row over a head by facts, the script's bits told -/
theorem walkH {l : PySem.W.OpenLaw} {n k : Nat} {q : Program} {loose : List Str}
    {XP : (Str → Option Value) → Heap → Prop} {YP : World → Heap → Prop} {d : DefRec}
    {sp : PySem.W.Frag → Sp} {x : Str} (hn : l.most = some n)
    (hn2 : n ≤ PySem.sizeLine) (hdf : d.params.defaults = []) (hr : Room k PySem.callerA)
    (F : ∀ (w : World) (mg : Str → Option Value) (fa : Addr) (h : Heap), YP w h →
      h.Ns mainGlobals mg → mg d.name = some (.ref fa) →
      ∃ (K : PySem.W.Frag) (fd : FuncData), K.In h ∧ (∀ (s : Shared) (u : Value), BindsTo s fd ⟨[u], []⟩ [(x, u)]) ∧
        ∀ base : Heap, K.In base → base.Ns mainGlobals mg →
          FnG l.prog w K mg base k fa fd [x] (sp K))
    (hsp : ∀ (K : PySem.W.Frag) (H : Hp) (a : Addr) (ns : List Int), ns.length ≤ n →
      (∀ z ∈ ns, Builtin.Int.intBits z ≤ 1048576) → Only H → SqL K H a (ns.map V.int) →
      sp K [.ref a] H (fun v _ => v = .bl true) fun _ _ _ => False) :
    PySem.W.WalkO q loose XP YP l.row.toRowW d [] (fun f vs => PySem.call f vs) := by
  refine Att.attach_callB hn hdf ?_
  intro w s0 s1 mg mb fa o pm cd doc a vs ns T Y ho hd hcd hmg hobj hints hlen hbits hg
  obtain ⟨K, fd, kin, hb, hF⟩ := F w mg fa _ Y T.T.g hmg
  exact lawG kin T.T.g T.T.b T.T.builtins T.T.nolimit hg hobj hints (Nat.le_trans hlen hn2)
    ⟨hr, rfl⟩ hF hb (fun H hO hS => hsp _ H a ns hlen hbits hO hS)

theorem all_mkH {P : Program} {w : World} {K : PySem.W.Frag} {h : Heap} {mg : Str → Option Value} {fa : Addr} (X : K.In h) (G : h.Ns mainGlobals mg) (hfa : mg "law" = some (.ref fa)) (c : He.SaysD [] fnH K) (e : exH K = true) (eD : dicsH K = dvalH w.params) :
    ∃ fd : FuncData, (∀ (s : Shared) (v : Value), BindsTo s fd ⟨[v], []⟩ [("_law_script", v)]) ∧
      ∀ base : Heap, K.In base → base.Ns mainGlobals mg →
        FnG P w K mg base 9 fa fd ["_law_script"] (sp_law K) := by
  obtain ⟨e0, e⟩ := He.ba e
  obtain ⟨e1, e⟩ := He.ba e
  obtain ⟨e2, e⟩ := He.ba e
  obtain ⟨e3, e⟩ := He.ba e
  obtain ⟨e4, e⟩ := He.ba e
  obtain ⟨e5, e⟩ := He.ba e
  obtain ⟨e6, e⟩ := He.ba e
  obtain ⟨e7, e⟩ := He.ba e
  obtain ⟨e8, e⟩ := He.ba e
  have e9 := e
  obtain ⟨h_is_number, e0⟩ := He.ba e0
  obtain ⟨h_is_whole, e0⟩ := He.ba e0
  obtain ⟨h_is_size, e0⟩ := He.ba e0
  obtain ⟨h_fits, e0⟩ := He.ba e0
  obtain ⟨h_is_program_row, e0⟩ := He.ba e0
  obtain ⟨h_Program_size, e0⟩ := He.ba e0
  obtain ⟨h_Program_rows, e0⟩ := He.ba e0
  obtain ⟨h_Program_eq, e0⟩ := He.ba e0
  obtain ⟨h_Program_len, e0⟩ := He.ba e0
  obtain ⟨h_number_read, e0⟩ := He.ba e0
  obtain ⟨h_rows_of_text, e0⟩ := He.ba e0
  have h_numbers_read := e0
  obtain ⟨h_program_text, e1⟩ := He.ba e1
  obtain ⟨h_read_program, e1⟩ := He.ba e1
  obtain ⟨h_law_pot, e1⟩ := He.ba e1
  obtain ⟨h_law_draw, e1⟩ := He.ba e1
  obtain ⟨h_law_cell, e1⟩ := He.ba e1
  obtain ⟨h_law_row, e1⟩ := He.ba e1
  obtain ⟨h_law_rows, e1⟩ := He.ba e1
  obtain ⟨h_law_size, e1⟩ := He.ba e1
  obtain ⟨h_law_text, e1⟩ := He.ba e1
  obtain ⟨h_law_right, e1⟩ := He.ba e1
  obtain ⟨h_law_both, e1⟩ := He.ba e1
  have h_law := e1
  obtain ⟨hg_Program, e2⟩ := He.ba e2
  obtain ⟨hc_Program, e2⟩ := He.ba e2
  obtain ⟨hm_Program, e2⟩ := He.ba e2
  obtain ⟨hn_Program_own_rows, e2⟩ := He.ba e2
  obtain ⟨hn_Program_own_size, e2⟩ := He.ba e2
  obtain ⟨oa_Program, e2⟩ := He.ba e2
  obtain ⟨om_Program, e2⟩ := He.ba e2
  obtain ⟨ok_Program_NoneType, e2⟩ := He.ba e2
  obtain ⟨ok_Program_int, e2⟩ := He.ba e2
  obtain ⟨ok_Program_bool, e2⟩ := He.ba e2
  obtain ⟨ok_Program_str, e2⟩ := He.ba e2
  have ok_Program_list := e2
  obtain ⟨ok_Program_tuple, e3⟩ := He.ba e3
  obtain ⟨ok_Program_dict, e3⟩ := He.ba e3
  obtain ⟨ne_Program, e3⟩ := He.ba e3
  obtain ⟨on, e3⟩ := He.ba e3
  obtain ⟨ot, e3⟩ := He.ba e3
  obtain ⟨xg_ForkError, e3⟩ := He.ba e3
  obtain ⟨xa_ForkError, e3⟩ := He.ba e3
  obtain ⟨xb_ForkError, e3⟩ := He.ba e3
  obtain ⟨xc_ForkError, e3⟩ := He.ba e3
  obtain ⟨xd_ForkError, e3⟩ := He.ba e3
  obtain ⟨xe_ForkError, e3⟩ := He.ba e3
  have xf_ForkError := e3
  obtain ⟨xt_ForkError, e4⟩ := He.ba e4
  obtain ⟨xg_NoSize, e4⟩ := He.ba e4
  obtain ⟨xa_NoSize, e4⟩ := He.ba e4
  obtain ⟨xb_NoSize, e4⟩ := He.ba e4
  obtain ⟨xc_NoSize, e4⟩ := He.ba e4
  obtain ⟨xd_NoSize, e4⟩ := He.ba e4
  obtain ⟨xe_NoSize, e4⟩ := He.ba e4
  obtain ⟨xf_NoSize, e4⟩ := He.ba e4
  obtain ⟨xt_NoSize, e4⟩ := He.ba e4
  obtain ⟨xk_NoSize, e4⟩ := He.ba e4
  obtain ⟨xn_NoSize, e4⟩ := He.ba e4
  have xs_NoSize_ForkError := e4
  obtain ⟨xs_NoSize_NoSize, e5⟩ := He.ba e5
  obtain ⟨xs_NoSize_NoProgram, e5⟩ := He.ba e5
  obtain ⟨xs_NoSize_NoText, e5⟩ := He.ba e5
  obtain ⟨xg_NoProgram, e5⟩ := He.ba e5
  obtain ⟨xa_NoProgram, e5⟩ := He.ba e5
  obtain ⟨xb_NoProgram, e5⟩ := He.ba e5
  obtain ⟨xc_NoProgram, e5⟩ := He.ba e5
  obtain ⟨xd_NoProgram, e5⟩ := He.ba e5
  obtain ⟨xe_NoProgram, e5⟩ := He.ba e5
  obtain ⟨xf_NoProgram, e5⟩ := He.ba e5
  obtain ⟨xt_NoProgram, e5⟩ := He.ba e5
  have xk_NoProgram := e5
  obtain ⟨xs_NoProgram_ForkError, e6⟩ := He.ba e6
  obtain ⟨xs_NoProgram_NoSize, e6⟩ := He.ba e6
  obtain ⟨xs_NoProgram_NoProgram, e6⟩ := He.ba e6
  obtain ⟨xs_NoProgram_NoText, e6⟩ := He.ba e6
  obtain ⟨xI_NoProgram, e6⟩ := He.ba e6
  obtain ⟨xT_NoProgram, e6⟩ := He.ba e6
  obtain ⟨xQ_NoProgram, e6⟩ := He.ba e6
  obtain ⟨xW_NoProgram, e6⟩ := He.ba e6
  obtain ⟨xZ_NoProgram, e6⟩ := He.ba e6
  obtain ⟨xbg_NoProgram, e6⟩ := He.ba e6
  obtain ⟨xbr_NoProgram, e6⟩ := He.ba e6
  have xV_NoProgram := e6
  obtain ⟨xg_NoText, e7⟩ := He.ba e7
  obtain ⟨xa_NoText, e7⟩ := He.ba e7
  obtain ⟨xb_NoText, e7⟩ := He.ba e7
  obtain ⟨xc_NoText, e7⟩ := He.ba e7
  obtain ⟨xd_NoText, e7⟩ := He.ba e7
  obtain ⟨xe_NoText, e7⟩ := He.ba e7
  obtain ⟨xf_NoText, e7⟩ := He.ba e7
  obtain ⟨xt_NoText, e7⟩ := He.ba e7
  obtain ⟨xk_NoText, e7⟩ := He.ba e7
  obtain ⟨xn_NoText, e7⟩ := He.ba e7
  obtain ⟨xs_NoText_ForkError, e7⟩ := He.ba e7
  have xs_NoText_NoSize := e7
  obtain ⟨xs_NoText_NoProgram, e8⟩ := He.ba e8
  obtain ⟨xs_NoText_NoText, e8⟩ := He.ba e8
  obtain ⟨hk_LARGEST, e8⟩ := He.ba e8
  obtain ⟨hk_MOST_SIGNS, e8⟩ := He.ba e8
  obtain ⟨dg_SHAPES, e8⟩ := He.ba e8
  obtain ⟨dv_SHAPES, e8⟩ := He.ba e8
  obtain ⟨hb_ValueError, e8⟩ := He.ba e8
  obtain ⟨hb_abs, e8⟩ := He.ba e8
  obtain ⟨hb_all, e8⟩ := He.ba e8
  obtain ⟨hb_bool, e8⟩ := He.ba e8
  obtain ⟨hb_divmod, e8⟩ := He.ba e8
  have hb_enumerate := e8
  obtain ⟨hb_int, e9⟩ := He.ba e9
  obtain ⟨hb_isinstance, e9⟩ := He.ba e9
  obtain ⟨hb_len, e9⟩ := He.ba e9
  obtain ⟨hb_list, e9⟩ := He.ba e9
  obtain ⟨hb_max, e9⟩ := He.ba e9
  obtain ⟨hb_min, e9⟩ := He.ba e9
  obtain ⟨hb_range, e9⟩ := He.ba e9
  obtain ⟨hb_repr, e9⟩ := He.ba e9
  obtain ⟨hb_sorted, e9⟩ := He.ba e9
  obtain ⟨hb_str, e9⟩ := He.ba e9
  obtain ⟨hb_tuple, e9⟩ := He.ba e9
  have hb_zip := e9
  have eL := hfa.symm.trans (He.glo_ok X G h_law)
  cases eL
  obtain ⟨fd0, FF0⟩ := c.def_ 0 (d := dd0) rfl
  have F0 : FunD K "__init__" "NoProgram.__init__" (defArgs s_NoProgram_init) (defBody s_NoProgram_init) (defScope s_NoProgram_init) [] ([] : List (Str × V)) (He.ma K (He.ga K "NoProgram") "__init__") fd0 := FF0
  have b0 := bindN (ps := ["self", "row"]) F0 fun _ _ _ _ _ _ us hl => match us, hl with | [_, _], _ => rfl
  obtain ⟨fd1, FF1⟩ := c.def_ 1 (d := dd1) rfl
  have F1 : FunD K "is_number" "is_number" (defArgs s_is_number) (defBody s_is_number) (defScope s_is_number) [] ([] : List (Str × V)) (He.ga K "is_number") fd1 := FF1
  have b1 := bindN (ps := ["thing"]) F1 fun _ _ _ _ _ _ us hl => match us, hl with | [_], _ => rfl
  obtain ⟨fd2, FF2⟩ := c.def_ 2 (d := dd2) rfl
  have F2 : FunD K "is_whole" "is_whole" (defArgs s_is_whole) (defBody s_is_whole) (defScope s_is_whole) [] ([] : List (Str × V)) (He.ga K "is_whole") fd2 := FF2
  have b2 := bindN (ps := ["thing", "least", "most"]) F2 fun _ _ _ _ _ _ us hl => match us, hl with | [_, _, _], _ => rfl
  obtain ⟨fd3, FF3⟩ := c.def_ 3 (d := dd3) rfl
  have F3 : FunD K "is_size" "is_size" (defArgs s_is_size) (defBody s_is_size) (defScope s_is_size) [] ([] : List (Str × V)) (He.ga K "is_size") fd3 := FF3
  have b3 := bindN (ps := ["thing"]) F3 fun _ _ _ _ _ _ us hl => match us, hl with | [_], _ => rfl
  obtain ⟨fd4, FF4⟩ := c.def_ 4 (d := dd4) rfl
  have F4 : FunD K "fits" "fits" (defArgs s_fits) (defBody s_fits) (defScope s_fits) [] ([] : List (Str × V)) (He.ga K "fits") fd4 := FF4
  have b4 := bindN (ps := ["sort", "thing", "size", "many"]) F4 fun _ _ _ _ _ _ us hl => match us, hl with | [_, _, _, _], _ => rfl
  obtain ⟨fd5, FF5⟩ := c.def_ 5 (d := dd5) rfl
  have F5 : FunD K "is_program_row" "is_program_row" (defArgs s_is_program_row) (defBody s_is_program_row) (defScope s_is_program_row) [] ([] : List (Str × V)) (He.ga K "is_program_row") fd5 := FF5
  have b5 := bindN (ps := ["thing", "size", "many"]) F5 fun _ _ _ _ _ _ us hl => match us, hl with | [_, _, _], _ => rfl
  obtain ⟨fd6, FF6⟩ := c.def_ 6 (d := dd6) rfl
  have F6 : FunD K "__init__" "Program.__init__" (defArgs s_Program_init) (defBody s_Program_init) (defScope s_Program_init) [] ([] : List (Str × V)) (He.ma K (He.ga K "Program") "__init__") fd6 := FF6
  have b6 := bindN (ps := ["self", "size", "rows"]) F6 fun _ _ _ _ _ _ us hl => match us, hl with | [_, _, _], _ => rfl
  obtain ⟨fd7, FF7⟩ := c.def_ 7 (d := dd7) rfl
  have F7 : FunD K "size" "Program.size" (defArgs s_Program_size) (defBody s_Program_size) (defScope s_Program_size) [] ([] : List (Str × V)) (He.ma K (He.ga K "Program") "size") fd7 := FF7
  have b7 := bindN (ps := ["self"]) F7 fun _ _ _ _ _ _ us hl => match us, hl with | [_], _ => rfl
  obtain ⟨fd8, FF8⟩ := c.def_ 8 (d := dd8) rfl
  have F8 : FunD K "rows" "Program.rows" (defArgs s_Program_rows) (defBody s_Program_rows) (defScope s_Program_rows) [] ([] : List (Str × V)) (He.ma K (He.ga K "Program") "rows") fd8 := FF8
  have b8 := bindN (ps := ["self"]) F8 fun _ _ _ _ _ _ us hl => match us, hl with | [_], _ => rfl
  obtain ⟨fd9, FF9⟩ := c.def_ 9 (d := dd9) rfl
  have F9 : FunD K "__eq__" "Program.__eq__" (defArgs s_Program_eq) (defBody s_Program_eq) (defScope s_Program_eq) [] ([] : List (Str × V)) (He.ma K (He.ga K "Program") "__eq__") fd9 := FF9
  have b9 := bindN (ps := ["self", "other"]) F9 fun _ _ _ _ _ _ us hl => match us, hl with | [_, _], _ => rfl
  obtain ⟨fd10, FF10⟩ := c.def_ 10 (d := dd10) rfl
  have F10 : FunD K "__len__" "Program.__len__" (defArgs s_Program_len) (defBody s_Program_len) (defScope s_Program_len) [] ([] : List (Str × V)) (He.ma K (He.ga K "Program") "__len__") fd10 := FF10
  have b10 := bindN (ps := ["self"]) F10 fun _ _ _ _ _ _ us hl => match us, hl with | [_], _ => rfl
  obtain ⟨fd11, FF11⟩ := c.def_ 11 (d := dd11) rfl
  have F11 : FunD K "number_read" "number_read" (defArgs s_number_read) (defBody s_number_read) (defScope s_number_read) [] ([] : List (Str × V)) (He.ga K "number_read") fd11 := FF11
  have b11 := bindN (ps := ["word"]) F11 fun _ _ _ _ _ _ us hl => match us, hl with | [_], _ => rfl
  obtain ⟨fd12, FF12⟩ := c.def_ 12 (d := dd12) rfl
  have F12 : FunD K "rows_of_text" "rows_of_text" (defArgs s_rows_of_text) (defBody s_rows_of_text) (defScope s_rows_of_text) [] ([] : List (Str × V)) (He.ga K "rows_of_text") fd12 := FF12
  have b12 := bindN (ps := ["text"]) F12 fun _ _ _ _ _ _ us hl => match us, hl with | [_], _ => rfl
  obtain ⟨fd13, FF13⟩ := c.def_ 13 (d := dd13) rfl
  have F13 : FunD K "numbers_read" "numbers_read" (defArgs s_numbers_read) (defBody s_numbers_read) (defScope s_numbers_read) [] ([] : List (Str × V)) (He.ga K "numbers_read") fd13 := FF13
  have b13 := bindN (ps := ["words"]) F13 fun _ _ _ _ _ _ us hl => match us, hl with | [_], _ => rfl
  obtain ⟨fd14, FF14⟩ := c.def_ 14 (d := dd14) rfl
  have F14 : FunD K "program_text" "program_text" (defArgs s_program_text) (defBody s_program_text) (defScope s_program_text) [] ([] : List (Str × V)) (He.ga K "program_text") fd14 := FF14
  have b14 := bindN (ps := ["program"]) F14 fun _ _ _ _ _ _ us hl => match us, hl with | [_], _ => rfl
  obtain ⟨fd15, FF15⟩ := c.def_ 15 (d := dd15) rfl
  have F15 : FunD K "read_program" "read_program" (defArgs s_read_program) (defBody s_read_program) (defScope s_read_program) [] ([] : List (Str × V)) (He.ga K "read_program") fd15 := FF15
  have b15 := bindN (ps := ["text"]) F15 fun _ _ _ _ _ _ us hl => match us, hl with | [_], _ => rfl
  obtain ⟨fd16, FF16⟩ := c.def_ 16 (d := dd16) rfl
  have F16 : FunD K "_law_pot" "_law_pot" (defArgs s_law_pot) (defBody s_law_pot) (defScope s_law_pot) [] ([] : List (Str × V)) (He.ga K "_law_pot") fd16 := FF16
  have b16 := bindN (ps := ["_law_script", "_law_k"]) F16 fun _ _ _ _ _ _ us hl => match us, hl with | [_, _], _ => rfl
  obtain ⟨fd17, FF17⟩ := c.def_ 17 (d := dd17) rfl
  have F17 : FunD K "_law_draw" "_law_draw" (defArgs s_law_draw) (defBody s_law_draw) (defScope s_law_draw) [] ([] : List (Str × V)) (He.ga K "_law_draw") fd17 := FF17
  have b17 := bindN (ps := ["_law_pot_here", "_law_many"]) F17 fun _ _ _ _ _ _ us hl => match us, hl with | [_, _], _ => rfl
  obtain ⟨fd18, FF18⟩ := c.def_ 18 (d := dd18) rfl
  have F18 : FunD K "_law_cell" "_law_cell" (defArgs s_law_cell) (defBody s_law_cell) (defScope s_law_cell) [] ([] : List (Str × V)) (He.ga K "_law_cell") fd18 := FF18
  have b18 := bindN (ps := ["_law_pot_here", "_law_size_here"]) F18 fun _ _ _ _ _ _ us hl => match us, hl with | [_, _], _ => rfl
  obtain ⟨fd19, FF19⟩ := c.def_ 19 (d := dd19) rfl
  have F19 : FunD K "_law_row" "_law_row" (defArgs s_law_row) (defBody s_law_row) (defScope s_law_row) [] ([] : List (Str × V)) (He.ga K "_law_row") fd19 := FF19
  have b19 := bindN (ps := ["_law_pot_here", "_law_size_here", "_law_at", "_law_many", "_law_forward"]) F19 fun _ _ _ _ _ _ us hl => match us, hl with | [_, _, _, _, _], _ => rfl
  obtain ⟨fd20, FF20⟩ := c.def_ 20 (d := dd20) rfl
  have F20 : FunD K "_law_rows" "_law_rows" (defArgs s_law_rows) (defBody s_law_rows) (defScope s_law_rows) [] ([] : List (Str × V)) (He.ga K "_law_rows") fd20 := FF20
  have b20 := bindN (ps := ["_law_pot_here", "_law_size_here", "_law_many", "_law_forward", "_law_forks"]) F20 fun _ _ _ _ _ _ us hl => match us, hl with | [_, _, _, _, _], _ => rfl
  obtain ⟨fd21, FF21⟩ := c.def_ 21 (d := dd21) rfl
  have F21 : FunD K "_law_size" "_law_size" (defArgs s_law_size) (defBody s_law_size) (defScope s_law_size) [] ([] : List (Str × V)) (He.ga K "_law_size") fd21 := FF21
  have b21 := bindN (ps := ["_law_pot_here"]) F21 fun _ _ _ _ _ _ us hl => match us, hl with | [_], _ => rfl
  obtain ⟨fd22, FF22⟩ := c.def_ 22 (d := dd22) rfl
  have F22 : FunD K "_law_text" "_law_text" (defArgs s_law_text) (defBody s_law_text) (defScope s_law_text) [] ([] : List (Str × V)) (He.ga K "_law_text") fd22 := FF22
  have b22 := bindN (ps := ["_law_size_here", "_law_rows_here"]) F22 fun _ _ _ _ _ _ us hl => match us, hl with | [_, _], _ => rfl
  obtain ⟨fd23, FF23⟩ := c.def_ 23 (d := dd23) rfl
  have F23 : FunD K "_law_right" "_law_right" (defArgs s_law_right) (defBody s_law_right) (defScope s_law_right) [] ([] : List (Str × V)) (He.ga K "_law_right") fd23 := FF23
  have b23 := bindN (ps := ["_law_size_here", "_law_rows_here"]) F23 fun _ _ _ _ _ _ us hl => match us, hl with | [_, _], _ => rfl
  obtain ⟨fd24, FF24⟩ := c.def_ 24 (d := dd24) rfl
  have F24 : FunD K "_law_both" "_law_both" (defArgs s_law_both) (defBody s_law_both) (defScope s_law_both) [] ([] : List (Str × V)) (He.ga K "_law_both") fd24 := FF24
  have b24 := bindN (ps := ["_law_pot_here"]) F24 fun _ _ _ _ _ _ us hl => match us, hl with | [_], _ => rfl
  obtain ⟨fd25, FF25⟩ := c.def_ 25 (d := dd25) rfl
  have F25 : FunD K "law" "law" (defArgs s_law) (defBody s_law) (defScope s_law) [] ([] : List (Str × V)) (He.ga K "law") fd25 := FF25
  have b25 := bindN (ps := ["_law_script"]) F25 fun _ _ _ _ _ _ us hl => match us, hl with | [_], _ => rfl
  obtain ⟨t_LARGEST, g_LARGEST⟩ := He.int_ok X G hk_LARGEST
  obtain ⟨t_MOST_SIGNS, g_MOST_SIGNS⟩ := He.int_ok X G hk_MOST_SIGNS
  have eD0 : He.dicW K (gdH K "SHAPES") = some (He.keysIn w.params (kv_SHAPES.map (·.1))) := by
    have h : (dicsH K)[0]? = (dvalH w.params)[0]? := by rw [eD]
    exact Option.some.inj h
  let T : Txt w K mg := {
    a_SHAPES := _, g_SHAPES := PySem.W.mg_of X G (He.eqO_ok dg_SHAPES), D_SHAPES := tabD_ok eD0 dv_SHAPES
    c_Program := _, cl_Program := He.cls_ok hc_Program, mg_Program := He.glo_ok X G hg_Program
    na_Program_own_rows := He.noat_ok hn_Program_own_rows
    na_Program_own_size := He.noat_ok hn_Program_own_size
    ic_Program := ⟨He.cls_ok hc_Program, He.eqO_ok oa_Program, He.eqO_ok on, of_decide_eq_true ot, of_decide_eq_true om_Program, kit_me⟩
    ot_Program := by
      intro n hn
      simp only [tyNames, List.mem_cons, List.not_mem_nil, or_false] at hn
      rcases hn with rfl | rfl | rfl | rfl | rfl | rfl | rfl
      · exact of_decide_eq_true ok_Program_NoneType
      · exact of_decide_eq_true ok_Program_int
      · exact of_decide_eq_true ok_Program_bool
      · exact of_decide_eq_true ok_Program_str
      · exact of_decide_eq_true ok_Program_list
      · exact of_decide_eq_true ok_Program_tuple
      · exact of_decide_eq_true ok_Program_dict
    ne_Program := He.eqO_ok ne_Program
    x_ForkError := _, mx_ForkError := He.glo_ok X G xg_ForkError, ec_ForkError := ⟨He.eqO_ok xa_ForkError, He.eqO_ok xb_ForkError, of_decide_eq_true xc_ForkError, xd_ForkError, He.eqO_ok xe_ForkError, He.eqO_ok on, of_decide_eq_true ot, of_decide_eq_true xf_ForkError⟩, et_ForkError := of_decide_eq_true xt_ForkError
    x_NoSize := _, mx_NoSize := He.glo_ok X G xg_NoSize, ec_NoSize := ⟨He.eqO_ok xa_NoSize, He.eqO_ok xb_NoSize, of_decide_eq_true xc_NoSize, xd_NoSize, He.eqO_ok xe_NoSize, He.eqO_ok on, of_decide_eq_true ot, of_decide_eq_true xf_NoSize⟩, et_NoSize := of_decide_eq_true xt_NoSize
    ek_NoSize := xk_NoSize
    en_NoSize := xn_NoSize
    is_NoSize_ForkError := of_decide_eq_true xs_NoSize_ForkError
    is_NoSize_NoSize := of_decide_eq_true xs_NoSize_NoSize
    is_NoSize_NoProgram := of_decide_eq_true xs_NoSize_NoProgram
    is_NoSize_NoText := of_decide_eq_true xs_NoSize_NoText
    x_NoProgram := _, mx_NoProgram := He.glo_ok X G xg_NoProgram, ec_NoProgram := ⟨He.eqO_ok xa_NoProgram, He.eqO_ok xb_NoProgram, of_decide_eq_true xc_NoProgram, xd_NoProgram, He.eqO_ok xe_NoProgram, He.eqO_ok on, of_decide_eq_true ot, of_decide_eq_true xf_NoProgram⟩, et_NoProgram := of_decide_eq_true xt_NoProgram
    ek_NoProgram := xk_NoProgram
    is_NoProgram_ForkError := of_decide_eq_true xs_NoProgram_ForkError
    is_NoProgram_NoSize := of_decide_eq_true xs_NoProgram_NoSize
    is_NoProgram_NoProgram := of_decide_eq_true xs_NoProgram_NoProgram
    is_NoProgram_NoText := of_decide_eq_true xs_NoProgram_NoText
    x_NoText := _, mx_NoText := He.glo_ok X G xg_NoText, ec_NoText := ⟨He.eqO_ok xa_NoText, He.eqO_ok xb_NoText, of_decide_eq_true xc_NoText, xd_NoText, He.eqO_ok xe_NoText, He.eqO_ok on, of_decide_eq_true ot, of_decide_eq_true xf_NoText⟩, et_NoText := of_decide_eq_true xt_NoText
    ek_NoText := xk_NoText
    en_NoText := xn_NoText
    is_NoText_ForkError := of_decide_eq_true xs_NoText_ForkError
    is_NoText_NoSize := of_decide_eq_true xs_NoText_NoSize
    is_NoText_NoProgram := of_decide_eq_true xs_NoText_NoProgram
    is_NoText_NoText := of_decide_eq_true xs_NoText_NoText
    a_NoProgram_init := _, d_NoProgram_init := _, F_NoProgram_init := F0, b_NoProgram_init := b0, xi_NoProgram := (He.meth_ok xI_NoProgram).at_, xt_NoProgram := of_decide_eq_true xT_NoProgram, xc_NoProgram := ⟨under_ValueError, excB_ok xQ_NoProgram, He.eqO_ok xW_NoProgram, of_decide_eq_true xc_NoProgram, of_decide_eq_true xt_NoProgram, xk_NoProgram⟩, xn_NoProgram := He.eqO_ok xZ_NoProgram, xbg_NoProgram := He.eqO_ok xbg_NoProgram, xbr_NoProgram := xbr_NoProgram, xv_NoProgram := foundB_ok xV_NoProgram, xf_NoProgram := ⟨He.eqO_ok xa_NoProgram, He.eqO_ok xb_NoProgram, of_decide_eq_true xc_NoProgram, xd_NoProgram⟩
    a_is_number := _, d_is_number := _, F_is_number := F1, b_is_number := b1, m_is_number := He.glo_ok X G h_is_number
    a_is_whole := _, d_is_whole := _, F_is_whole := F2, b_is_whole := b2, m_is_whole := He.glo_ok X G h_is_whole
    a_is_size := _, d_is_size := _, F_is_size := F3, b_is_size := b3, m_is_size := He.glo_ok X G h_is_size
    a_fits := _, d_fits := _, F_fits := F4, b_fits := b4, m_fits := He.glo_ok X G h_fits
    a_is_program_row := _, d_is_program_row := _, F_is_program_row := F5, b_is_program_row := b5, m_is_program_row := He.glo_ok X G h_is_program_row
    a_Program_init := _, d_Program_init := _, F_Program_init := F6, b_Program_init := b6, mk_Program := He.mkr_ok hm_Program
    a_Program_size := _, d_Program_size := _, F_Program_size := F7, b_Program_size := b7, me_Program_size := He.meth_ok h_Program_size
    a_Program_rows := _, d_Program_rows := _, F_Program_rows := F8, b_Program_rows := b8, me_Program_rows := He.meth_ok h_Program_rows
    a_Program_eq := _, d_Program_eq := _, F_Program_eq := F9, b_Program_eq := b9, me_Program_eq := He.meth_ok h_Program_eq
    a_Program_len := _, d_Program_len := _, F_Program_len := F10, b_Program_len := b10, me_Program_len := He.meth_ok h_Program_len
    a_number_read := _, d_number_read := _, F_number_read := F11, b_number_read := b11, m_number_read := He.glo_ok X G h_number_read
    a_rows_of_text := _, d_rows_of_text := _, F_rows_of_text := F12, b_rows_of_text := b12, m_rows_of_text := He.glo_ok X G h_rows_of_text
    a_numbers_read := _, d_numbers_read := _, F_numbers_read := F13, b_numbers_read := b13, m_numbers_read := He.glo_ok X G h_numbers_read
    a_program_text := _, d_program_text := _, F_program_text := F14, b_program_text := b14, m_program_text := He.glo_ok X G h_program_text
    a_read_program := _, d_read_program := _, F_read_program := F15, b_read_program := b15, m_read_program := He.glo_ok X G h_read_program
    a_law_pot := _, d_law_pot := _, F_law_pot := F16, b_law_pot := b16, m_law_pot := He.glo_ok X G h_law_pot
    a_law_draw := _, d_law_draw := _, F_law_draw := F17, b_law_draw := b17, m_law_draw := He.glo_ok X G h_law_draw
    a_law_cell := _, d_law_cell := _, F_law_cell := F18, b_law_cell := b18, m_law_cell := He.glo_ok X G h_law_cell
    a_law_row := _, d_law_row := _, F_law_row := F19, b_law_row := b19, m_law_row := He.glo_ok X G h_law_row
    a_law_rows := _, d_law_rows := _, F_law_rows := F20, b_law_rows := b20, m_law_rows := He.glo_ok X G h_law_rows
    a_law_size := _, d_law_size := _, F_law_size := F21, b_law_size := b21, m_law_size := He.glo_ok X G h_law_size
    a_law_text := _, d_law_text := _, F_law_text := F22, b_law_text := b22, m_law_text := He.glo_ok X G h_law_text
    a_law_right := _, d_law_right := _, F_law_right := F23, b_law_right := b23, m_law_right := He.glo_ok X G h_law_right
    a_law_both := _, d_law_both := _, F_law_both := F24, b_law_both := b24, m_law_both := He.glo_ok X G h_law_both
    a_law := _, d_law := _, F_law := F25, b_law := b25, m_law := He.glo_ok X G h_law
    t_LARGEST := t_LARGEST, g_LARGEST := g_LARGEST
    t_MOST_SIGNS := t_MOST_SIGNS, g_MOST_SIGNS := g_MOST_SIGNS
    n_ValueError := He.free_ok X G hb_ValueError
    n_abs := He.free_ok X G hb_abs
    n_all := He.free_ok X G hb_all
    n_bool := He.free_ok X G hb_bool
    n_divmod := He.free_ok X G hb_divmod
    n_enumerate := He.free_ok X G hb_enumerate
    n_int := He.free_ok X G hb_int
    n_isinstance := He.free_ok X G hb_isinstance
    n_len := He.free_ok X G hb_len
    n_list := He.free_ok X G hb_list
    n_max := He.free_ok X G hb_max
    n_min := He.free_ok X G hb_min
    n_range := He.free_ok X G hb_range
    n_repr := He.free_ok X G hb_repr
    n_sorted := He.free_ok X G hb_sorted
    n_str := He.free_ok X G hb_str
    n_tuple := He.free_ok X G hb_tuple
    n_zip := He.free_ok X G hb_zip
  }
  have bL := FunD.bindsA (ps := ["_law_script"]) F25 fun _ _ _ _ _ _ us hl => match us, hl with | [_], _ => rfl
  exact ⟨_, fun s v => bL s [v] rfl, fun base _ _ => ok_law T⟩
end My
open PySem PySem.W PySem.Calls PyProof.Rows in
set_option maxRecDepth 100000 in
set_option maxHeartbeats 0 in
theorem PySem.Challenge.cw_forkthrift_k91_whole_program_texts_holds : PySem.Challenge.rw_forkthrift_k91_whole_program_texts.Holds := by
  w_on; o_law
  refine HandSHeadRun.head_any (r := OpenLaw.row PySem.Challenge.rw_forkthrift_k91_whole_program_texts) (q := view (OpenLaw.row PySem.Challenge.rw_forkthrift_k91_whole_program_texts).prog [32]) (H := My.hkH) (ob := My.obH) (M := 200000) (loose := My.lsH) (d := HandSHeadRun.topDef (OpenLaw.row PySem.Challenge.rw_forkthrift_k91_whole_program_texts).prog 32) (kwd := []) My.obH_eq
    (by kernel_rfl) (fun s => by kernel_rfl) My.runH (by kernel_rfl) (by kernel_rfl) (by kernel_rfl) (by rfl) (by first | assumption | decide +kernel) (by decide +kernel) ⟨rfl, rfl, rfl, rfl, rfl, by decide +kernel⟩ ?hw ?hc
  case hw => w_witness2
  case hc =>
    refine My.walkH (l := PySem.Challenge.rw_forkthrift_k91_whole_program_texts) (sp := My.sp_law) (n := 63) (k := 9) (x := "_law_script") rfl (by decide) (by kernel_rfl) ⟨rfl, by decide, by decide⟩ ?F ?S
    case S => exact fun K H a ns hl hb ho hs => My.law_end hl hb ho hs
    case F =>
      intro w mg fa h Y G hmg0
      obtain ⟨K, KX, c, e, e3⟩ := Y
      have hmg : mg ("law" : PySem.Str) = some (.ref fa) := by
        have e : (HandSHeadRun.topDef (OpenLaw.row PySem.Challenge.rw_forkthrift_k91_whole_program_texts).prog 32).name = ("law" : PySem.Str) := by kernel_rfl
        rw [← e]
        exact hmg0
      obtain ⟨fd, hb, hF⟩ := My.all_mkH (P := (PySem.Challenge.rw_forkthrift_k91_whole_program_texts).prog) (w := w) KX G hmg c e e3
      exact ⟨K, fd, KX, hb, hF⟩
#print axioms PySem.Challenge.cw_forkthrift_k91_whole_program_texts_holds

