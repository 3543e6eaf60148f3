import PyProof.Rows.All
import Wide.All
import OpenK.AllK
import Wide.FinOn
import HandS.ForMost
import HandS.ForExc
import HandS.WideBits
import HandS.EndBits
import HandS.Defaults
import HandS.FStrTup
import HandS.IsInst
import HandS.More
import HandS.Style
import HandS.Steps
import HandS.MakeKwOnly
import HandS.SortInts
import HandS.SortRule
import HandS.DictComp
import HandS.SetFor
import HandS.Remove
import HandS.Small
import HandS.Codes
import HandS.WordsDict
import HandS.FStr
import HandS.Deep
import HandS.Zip
import HandS.Conv
import HandS.SetBool
import HandS.Strs
import HandS.TupSets
import HandS.Finally
import PyProof.Walks
import PyProof.FactsAll.subtypes_4
import KE.KDictZip
import KE.SortData
import PySem.Challenge.RW_forkthrift_k42_whole_stores_by_deeds
set_option Elab.async false
set_option linter.all false
set_option maxRecDepth 100000
set_option maxHeartbeats 4000000
namespace G
open PySem PySem.Spec PyProof.Rows L2

/-! the call layer once more, with the guards known -/
structure RoomG (k : Nat) (A : Around) : Prop where
  r : Room k A
  g : A.guards = some []
theorem RoomG.mono {j k : Nat} {A : Around} (z : RoomG k A) (h : j ≤ k) : RoomG j A :=
  ⟨z.r.mono h, z.g⟩
theorem RoomG.deeper {k : Nat} {A : Around} (z : RoomG (k + 1) A) (env : Env) :
    RoomG k (A.deeper env) := ⟨z.r.deeper env, z.g⟩
theorem make_guards {A : Around} {C : Addr} {us : List Value} {kw : List (Str × Value)} :
    (A.under (.builtin "type.__call__" ⟨.ref C :: us, kw⟩)).guards = A.guards := by
  first
    | rfl
    | (simp only [Around.under]
       rw [pushGuards_eq]
       have e : Code.guards (.builtin "type.__call__" ⟨.ref C :: us, kw⟩) = [] := by
         simp [Code.guards, Code.isGuard, guardIds]
       rw [e]
       cases A.guards <;> rfl)
theorem RoomG.make {k : Nat} {A : Around} (z : RoomG (k + 1) A) (C : Addr) (us : List Value)
    (kw : List (Str × Value)) : RoomG k (A.under (.builtin "type.__call__" ⟨.ref C :: us, kw⟩)) :=
  ⟨z.r.make C us kw, make_guards.trans z.g⟩

structure FnG (P : Program) (w : World) (K : PySem.W.Frag) (mg : Str → Option Value) (base : Heap)
    (k : Nat) (f : Addr) (fd : FuncData) (ps : List Str) (sp : Sp) : Prop where
  len : ∀ vs H Q E, sp vs H Q E → vs.length = ps.length
  run : ∀ (A : Around) (outer : List Env) (s : Shared) (H : Hp) (args : Args) (us : List Value)
    (vs : List V) (Q : VK) (E : XK), RoomG k A → Env0 P w K mg base A outer s H →
    BindsTo s fd args (ps.zip us) → Vals vs us → sp vs H Q E →
    codeAny (model P w) A (.call (.ref f) args) (CR (L2.CX P w) outer P w H s Q E) s
section
variable {P : Program} {w : World} {K : PySem.W.Frag} {mg : Str → Option Value} {base : Heap}
theorem FnG.mono {j k : Nat} {f : Addr} {fd : FuncData} {ps : List Str} {sp : Sp}
    (F : FnG P w K mg base j f fd ps sp) (h : j ≤ k) : FnG P w K mg base k f fd ps sp :=
  ⟨F.len, fun A o s H args us vs Q E z => F.run A o s H args us vs Q E (z.mono h)⟩
theorem FnG.of {k : Nat} {f : Addr} {fd : FuncData} {ps : List Str} {sp : Sp}
    (F : FnOk P w K mg base (L2.CX P w) k f fd ps sp) : FnG P w K mg base k f fd ps sp :=
  ⟨F.len, fun A o s H args us vs Q E z => F.run A o s H args us vs Q E z.r⟩

/-- a def by its body -/
theorem FnG.body {k : Nat} {f : Addr} {name qual : Str} {params : Arguments} {body : List Stmt}
    {sc : Scope} {dV kV doc pm cdv ct oc : Value} {an od : Option Addr} {osl : Array (Option Value)}
    {N ps : List Str} {sp : Sp}
    (lk : K.lookup f = some ⟨oc, od, .func (PySem.W.fnOf name qual params body sc dV kV doc pm an cdv ct), osl⟩)
    (hcd : PySem.W.codeIn K cdv qual = true) (S : FnScope N ps sc)
    (len : ∀ vs H Q E, sp vs H Q E → vs.length = ps.length)
    (hb : ∀ (A : Around) (outer : List Env) (s : Shared) (H : Hp) (vs : List V) (Q : VK) (E : XK),
      RoomG k (A.deeper (envOfC qual sc s.heap.objs.size f cdv)) → sp vs H Q E →
      ∃ t, PSs (cxOf (L2.CX P w) P w K mg base N qual sc f cdv A outer s H E) body t ∧
        t { nx := fun _ H' => Q .non H', rt := Q } (start N vs) H) :
    FnG P w K mg base (k + 1) f
      (PySem.W.fnOf name qual params body sc dV kV doc pm an cdv ct) ps sp := by
  refine ⟨len, ?_⟩
  intro A outer s H args us vs Q E z e0 bd rv hsp
  have n0 := len _ _ _ _ hsp
  have kin : K.In s.heap :=
    e0.mod.kin.keeps (fun b o e => (e0.bs b o e).1)
  have lim : s.heap.NoLimit :=
    e0.mod.nolimit.keeps (fun b o e => (e0.bs b o e).1)
  have kinds : ∀ y ∈ ps.zip us, sc.names.lookup y.1 = some .local ∨
      (sc.names.lookup y.1 = some .cell ∧
        ((cellsFrom (s.heap.objs.size + 1) sc.names []).lookup y.1).isSome = true) := by
    intro y hy
    obtain ⟨m, v⟩ := y
    cases S.par m (List.of_mem_zip hy).1 with
    | inl q => exact Or.inl q
    | inr q => exact Or.inr ⟨q, PySem.W.cellsFrom_some _ _ _ (Or.inl q)⟩
  refine codeAny_call_function z.r.depth (kin _ _ lk) rfl S.co S.gen rfl
    (PySem.W.codeRec_of kin hcd) (bd _ _ _ _ ?_)
  refine wpAny_newFunctionEnv_cells S.kind kinds ?_
  intro env he s1 x
  subst he
  refine ⟨lim.keeps x.toInCall.keep, ?_⟩
  refine codeAny_func ?_
  obtain ⟨t, ht, hq⟩ := hb A outer s H vs Q E (z.deeper _) hsp
  have I := inv_start (CX := L2.CX P w) (K := K) (mg := mg) (base := base) (E := E)
    S z.r.hd e0 n0 rv x
  refine wpAny_mono (ht.run [] s1 (start N vs) H _ I hq) ?_ (fun e s' hs => hs)
  intro fl s' hs
  have fin : ∀ {τ : L2.St} {G : Hp} {v : V} {u : Value},
      Inv (cxOf (L2.CX P w) P w K mg base N qual sc f cdv A outer s H E) [] τ G s' →
      RelV v u → Q v G → CE outer P w H s Q u s' := by
    intro τ G v u J r q
    exact ⟨v, G, J.os, J.bare, J.base, J.hok, r, q⟩
  match fl, hs with
  | .ret u, ⟨v, τ, G, J, r, q⟩ => exact fin J r q
  | .next, ⟨τ, G, J, q⟩ => exact fin (v := .non) (u := Value.none) J rfl q
  | .brk, ⟨_, _, _, q⟩ => exact False.elim q
  | .cont, ⟨_, _, _, q⟩ => exact False.elim q
end
end G
namespace G
open PySem PySem.Spec PyProof.Rows L2
section
variable {X : Cx} {k n : Nat} {f C : Addr} {fd : FuncData} {ps ks : List Str} {sp : Sp}
variable {dvs : List V} {ds : List Value} {E : XK} {x m : Str} {p pos apos : Pos} {e o : Expr}
variable {es : List Expr} {ta : TE} {t tk : TA} {pins : List (Addr × Obj)} {σ : L2.St} {H : Hp}
variable {s s' : Shared} {Q : VK}
abbrev Fg (X : Cx) (k : Nat) (f : Addr) (fd : FuncData) (ps : List Str) (sp : Sp) : Prop :=
  FnG X.prog X.w X.K X.mg X.base k f fd ps sp
abbrev Ps (X : Cx) (E : XK) : Prop := Passes (L2.CX X.prog X.w) X E

def Got (X : Cx) (R : Value → Shared → Prop) : Result → Shared → Prop
  | .ok (.ret u), s' => R u s'
  | .ok _, _ => False
  | .error e, s' => X.xe e s'
theorem ended (I : Inv X pins σ H s) (hx : Ps X E) {R : Value → Shared → Prop}
    (hR : ∀ u s', CE X.stack X.prog X.w H s Q u s' → R u s') {r : Result}
    (q : CR (L2.CX X.prog X.w) X.stack X.prog X.w H s Q E r s') : Got X R r s' := by
  match r, q with
  | .error e, q => exact hx pins σ H s e s' I q
  | .ok (.ret u), q => exact hR u s' q
  | .ok .next, q => exact False.elim q
  | .ok .brk, q => exact False.elim q
  | .ok .cont, q => exact False.elim q

theorem runG {args : Args} {us : List Value} {vs : List V} (F : Fg X k f fd ps sp)
    (z : RoomG k X.A) (hb : BindsTo s fd args (ps.zip us)) (hx : Ps X E) (I : Inv X pins σ H s)
    (rv : Vals vs us) (h : sp vs H Q E) :
    codeAny (model X.prog X.w) X.A (.call (.ref f) args) (Got X (EP X pins σ Q)) s := by
  refine codeAny_mono (F.run X.A X.stack s H args us vs Q E z I.env0 hb rv h) ?_
  intro r s' q
  exact ended I hx (fun u s' c => I.after c) q

theorem run1 {us : List Value} {vs : List V} (F : Fg X k f fd ps sp) (z : RoomG k X.A)
    (hb : Binds X.K fd ps ds) (hd : Vals dvs ds) (hx : Ps X E) (I : Inv X pins σ H s)
    (rv : Vals vs us) (h : sp (vs ++ dvs) H Q E) :
    wpAny (model X.prog X.w) X.A (call (.ref f) us) (EP X pins σ Q) X.xe s := by
  have r2 : Vals (vs ++ dvs) (us ++ ds) := rv.append hd
  have hl : (us ++ ds).length = ps.length := by
    rw [← r2.length]
    exact F.len _ _ _ _ h
  refine wpAny_call (codeAny_mono (runG F z (hb s us I.kIn hl) hx I r2 h) ?_)
  intro r s' q
  match r, q with
  | .error e, q => exact q
  | .ok (.ret u), q => exact q
  | .ok .next, q => exact q
  | .ok .brk, q => exact q
  | .ok .cont, q => exact q

theorem c1 (F : Fg X k f fd ps sp) (z : RoomG k X.A) (hg : Gl X x) (hm : X.mg x = some (.ref f))
    (hk : PySem.W.keepIn X.K (.ref f) = true) (hb : Binds X.K fd ps ds) (hd : Vals dvs ds)
    (hx : Ps X E) (ha : PA X (e :: es) t)
    (hdb : (x == ("__debug__" : Str)) = false := by decide)
    (he : starEach (e :: es) X.env = (false, eval e X.env) :: starEach es X.env := by rfl)
    (hpl : (backTo pos (starEach es X.env)).any (·.1) = false := by rfl) :
    PE X (.Call (.Name x p) (e :: es) [] pos) (tCall sp dvs E t) := by
  constructor
  intro pins s σ H Q I h
  refine wpAny_Call_Name_kw (ld_glob I hg hm ?_ hdb)
  refine PySem.W.callWith_K (h₀ := X.base) I.ok.mod.kin hk ?_ he hpl
  refine thn (ha.run pos pins s σ H _ I h) ?_
  intro us s1 y
  obtain ⟨vs, H1, I1, r, q⟩ := y
  exact ⟨I1.kIn, run1 F z hb hd hx I1 r q⟩

theorem c0 (F : Fg X k f fd ps sp) (z : RoomG k X.A) (hg : Gl X x) (hm : X.mg x = some (.ref f))
    (hk : PySem.W.keepIn X.K (.ref f) = true) (hb : Binds X.K fd ps ds) (hd : Vals dvs ds)
    (hx : Ps X E) (hdb : (x == ("__debug__" : Str)) = false := by decide) :
    PE X (.Call (.Name x p) [] [] pos) (tCall sp dvs E tNil) := by
  constructor
  intro pins s σ H Q I h
  refine wpAny_Call_Name_kw (ld_glob I hg hm ?_ hdb)
  exact PySem.W.callWith_K0 I.kIn hk (run1 (us := []) F z hb hd hx I .nil h)

/-- o.m(..) -/
theorem cm {pl : Sem Bool} (he : PE X o ta) (c : Cls X.K C) (hm : Meth X.K C m f)
    (F : Fg X k f fd ps sp) (z : RoomG k X.A) (hb : Binds X.K fd ps ds) (hd : Vals dvs ds)
    (hx : Ps X E) (ha : PA X (e :: es) t)
    (hst : starEach (e :: es) X.env = (false, eval e X.env) :: starEach es X.env := by rfl)
    (hpl : (backTo pos (starEach es X.env)).any (·.1) = false := by rfl)
    (ht : eval (.Call (.Attribute o m apos) (e :: es) [] pos) X.env = (do
      let y ← eval o X.env
      standAt apos.atName
      let (g, a) ← holding [y] (getMethod y m pl)
      callWith pos g a (backTo pos (starEach (e :: es) X.env))
        (backToKw pos (keywordEach [] X.env))) := by rfl) :
    PE X (.Call (.Attribute o m apos) (e :: es) [] pos) (tMeth C m sp dvs E ta t) := by
  constructor
  intro pins s σ H Q I h
  refine PySem.W.methodCall_KW (pl := pl) (thn (he.run pins s σ H _ I h) ?_) ht
  intro u s1 y
  obtain ⟨v, H1, I1, rx, a, dx, fs, ex, ea, l, q⟩ := y
  subst ex
  obtain rfl : u = Value.ref a := rx
  refine getmeth_ok I1 ea c hm l ?_
  refine PySem.W.callWith_K (first := [.ref a]) (h₀ := X.base) I.ok.mod.kin hm.kp ?_ hst hpl
  refine thn (ha.run pos pins s1 σ H1 _ I1 q) ?_
  intro us s2 y
  obtain ⟨vs, H2, I2, r, q2⟩ := y
  exact ⟨I2.kIn, run1 (us := .ref a :: us) (vs := .ref a :: vs) F z hb hd hx I2 (.cons rfl r) q2⟩
/-- o.m() -/
theorem cm0 {pl : Sem Bool} (he : PE X o ta) (c : Cls X.K C) (hm : Meth X.K C m f)
    (F : Fg X k f fd ps sp) (z : RoomG k X.A) (hb : Binds X.K fd ps ds) (hd : Vals dvs ds)
    (hx : Ps X E)
    (ht : eval (.Call (.Attribute o m apos) [] [] pos) X.env = (do
      let y ← eval o X.env
      standAt apos.atName
      let (g, a) ← holding [y] (getMethod y m pl)
      callWith pos g a (backTo pos (starEach [] X.env))
        (backToKw pos (keywordEach [] X.env))) := by rfl) :
    PE X (.Call (.Attribute o m apos) [] [] pos) (tMeth C m sp dvs E ta tNil) := by
  constructor
  intro pins s σ H Q I h
  refine PySem.W.methodCall_KW (pl := pl) (thn (he.run pins s σ H _ I h) ?_) ht
  intro u s1 y
  obtain ⟨v, H1, I1, rx, a, dx, fs, ex, ea, l, q⟩ := y
  subst ex
  obtain rfl : u = Value.ref a := rx
  refine getmeth_ok I1 ea c hm l ?_
  refine PySem.W.callWith_K0 (first := [.ref a]) I1.kIn hm.kp ?_
  exact run1 (us := [.ref a]) (vs := [.ref a]) F z hb hd hx I1 (.cons rfl .nil) q
end
end G
namespace G
open PySem PySem.Spec PyProof.Rows L2

/-- the heap at the law's entry: the script alone is tracked, or nothing -/
theorem lawG {P : Program} {w : World} {K : PySem.W.Frag} {mg mb : Str → Option Value} {k : Nat}
    {fa a : Addr} {fd : FuncData} {x : Str} {sp : Sp} {s0 : Shared} {vs : List Value}
    {ns : List Int} (kin : K.In s0.heap) (hns : s0.heap.Ns mainGlobals mg)
    (hb : s0.heap.Ns builtinsNs mb) (hbb : ∀ y : Str, y ≠ "__name__" → mb y = bootBuiltins y)
    (lim : s0.heap.NoLimit) (hg : s0.gens = #[])
    (ha : s0.heap.get? a = some { cls := .type "list", data := .seq vs.toArray })
    (hi : IntsAre vs ns) (hl : ns.length ≤ sizeLine) (z : RoomG k callerA)
    (F : ∀ base : Heap, K.In base → base.Ns mainGlobals mg → FnG P w K mg base k fa fd [x] sp)
    (bd : ∀ (s : Shared) (u : Value), BindsTo s fd ⟨[u], []⟩ [(x, u)])
    (hsp : ∀ H : Hp, Only H → SqL K H a (ns.map V.int) →
      sp [.ref a] H (fun v _ => v = .bl true) fun _ _ _ => False) :
    codeAny (model P w) callerA (.call (.ref fa) ⟨[.ref a], []⟩)
      (fun r s' => r = .ok (.ret (.bool true)) ∧ OldK s0.heap s'.heap ∧ s'.os = s0.os ∧
        AllBare s'.gens) s0 := by
  have rv := vals_ints hi
  have lv := hi.length
  have core : ∀ H : Hp, Only H → SqL K H a (ns.map V.int) → HOk P w H s0.heap →
      (∀ b, H b ≠ none → b = a) → (H a ≠ none → K.lookup a = none) →
      codeAny (model P w) callerA (.call (.ref fa) ⟨[.ref a], []⟩)
        (fun r s' => r = .ok (.ret (.bool true)) ∧ OldK s0.heap s'.heap ∧ s'.os = s0.os ∧
          AllBare s'.gens) s0 := by
    intro H only sq hok only_a notK
    have at_a : ∀ {b : Addr}, H b ≠ none → b = a := fun {b} q => only_a b q
    have seqs : ∀ {b : Addr} {o : Obj} {es : Array DictEntry} {ep : Nat},
        s0.heap.get? b = some o → o.data = .dict es ep → H b = none := by
      intro b o es ep e d
      cases q : H b with
      | none => rfl
      | some u =>
        obtain rfl := at_a (b := b) (by rw [q]; exact fun y => nomatch y)
        rw [ha] at e
        cases e
        have d' : Data.seq vs.toArray _ = Data.dict es ep := d
        cases d'
    have nsb : ∀ {b : Addr} {g : Str → Option Value}, s0.heap.Ns b g →
        (hidT s0.heap H).Ns b g := by
      intro b g y
      obtain ⟨o, es, ep, e, d, r⟩ := y
      exact ⟨o, es, ep, hidT_get e (seqs e d), d, r⟩
    have kb : K.In (hidT s0.heap H) := by
      intro b o e
      refine hidT_get (kin b o e) ?_
      cases q : H b with
      | none => rfl
      | some u =>
        obtain rfl := at_a (b := b) (by rw [q]; exact fun y => nomatch y)
        rw [notK (by rw [q]; exact fun y => nomatch y)] at e
        cases e
    have md : Mod K mg (hidT s0.heap H) := by
      obtain ⟨mc, l1, l2⟩ := lim
      exact ⟨kb, nsb hns, ⟨mb, nsb hb, hbb⟩, ⟨mc, nsb l1, l2⟩⟩
    have e0 : Env0 P w K mg (hidT s0.heap H) callerA [] s0 H :=
      ⟨rfl, md, fun b o e => of_hidT e, Nat.le_of_eq (hidT_size _ _), trivial,
        fun b q => absurd (show b ∈ ([] : List Addr) from q) List.not_mem_nil, hok, .of_eq hg⟩
    have run := (F _ kb (nsb hns)).run callerA [] s0 H ⟨[.ref a], []⟩ [.ref a] [.ref a] _ _
      z e0 (bd s0 (.ref a)) (.cons rfl .nil) (hsp H only sq)
    refine codeAny_mono run ?_
    intro r s' h
    match r, h with
    | .error e, h =>
      obtain ⟨_, _, _, _, _, _, _, _, _, _, _, _, y⟩ := h
      exact y.elim
    | .ok .next, h => exact False.elim h
    | .ok .brk, h => exact False.elim h
    | .ok .cont, h => exact False.elim h
    | .ok (.ret u), h =>
      obtain ⟨v, H', os, bare, un, hok', r', q⟩ := h
      have q' : v = .bl true := q
      subst q'
      obtain rfl : u = Value.bool true := r'
      refine ⟨rfl, OldK.of_keep ?_, os, bare⟩
      intro b o e
      cases q : H b with
      | none =>
        exact un.keep b o e q (fun y => absurd (show b ∈ ([] : List Addr) from y) List.not_mem_nil)
          List.not_mem_nil
      | some u =>
        rcases only b with y | ⟨ob, xs, y⟩
        · rw [q] at y
          cases y
        · obtain ⟨e1, _⟩ := hok b _ y
          obtain ⟨e2, _⟩ := hok' b _ (un.frzs b ob _ y)
          rw [e] at e1
          cases e1
          exact e2
  cases hk : K.lookup a with
  | some o =>
    have e := kin a o hk
    rw [ha] at e
    cases e
    refine core (fun _ => none) (fun _ => Or.inl rfl) (Or.inr ?_) ?_ (fun b y => absurd rfl y)
      (fun y => absurd rfl y)
    · refine ⟨_, vs.toArray, _, hk, rfl, rfl, rfl, ?_, ?_⟩
      · rw [List.size_toArray, lv]
        exact hl
      · simpa using rv
    · intro b u y
      have y' : (none : Option HO) = some u := y
      cases y'
  | none =>
    refine core (fun b => if b = a then
      some (.frz { cls := .type "list", data := .seq vs.toArray } (.lst (ns.map V.int)))
      else none) ?_ (Or.inl (Or.inr ⟨_, if_pos rfl⟩)) ?_ ?_ (fun _ => hk)
    · intro b
      by_cases q : b = a
      · exact Or.inr ⟨_, _, if_pos q⟩
      · exact Or.inl (if_neg q)
    · intro b u y
      by_cases q : b = a
      · have y' := (if_pos q).symm.trans y
        cases y'
        subst q
        refine ⟨ha, ?_, vs, _, rv, ha⟩
        rw [List.length_map]
        exact hl
      · have y' := (if_neg q).symm.trans y
        cases y'
    · intro b y
      by_cases q : b = a
      · exact q
      · exact absurd (if_neg q) y

/-- the end of a law row, the script's bits told -/
theorem walkG {l : PySem.W.OpenLaw} {n k : Nat} {q : Program} {loose : List Str}
    {XP : (Str → Option Value) → Heap → Prop} {YP : World → Heap → Prop} {d : DefRec}
    {K : Params → PySem.W.Frag} {sp : PySem.W.Frag → Sp} {x : Str} (hn : l.most = some n)
    (hn2 : n ≤ sizeLine) (hdf : d.params.defaults = []) (hr : Room k callerA)
    (hY : ∀ (w : World) (h : Heap), YP w h → (K w.params).In h)
    (F : ∀ (w : World) (mg : Str → Option Value) (fa : Addr) (h : Heap), (K w.params).In h →
      h.Ns mainGlobals mg → mg d.name = some (.ref fa) →
      ∃ fd : FuncData, (∀ (s : Shared) (u : Value), BindsTo s fd ⟨[u], []⟩ [(x, u)]) ∧
        ∀ base : Heap, (K w.params).In base → base.Ns mainGlobals mg →
          FnG l.prog w (K w.params) mg base k fa fd [x] (sp (K w.params)))
    (hsp : ∀ (K : PySem.W.Frag) (H : Hp) (a : Addr) (ns : List Int), ns.length ≤ n →
      (∀ z ∈ ns, Builtin.Int.intBits z ≤ 1048576) → Only H → SqL K H a (ns.map V.int) →
      sp K [.ref a] H (fun v _ => v = .bl true) fun _ _ _ => False) :
    PySem.W.WalkO q loose XP YP l.row.toRowW d [] (fun f vs => PySem.call f vs) := by
  refine Att.attach_callB hn hdf ?_
  intro w s0 s1 mg mb fa o pm cd doc a vs ns T Y ho hd hcd hmg hobj hints hlen hbits hg
  have kin := hY w _ Y
  obtain ⟨fd, hb, hF⟩ := F w mg fa _ kin T.T.g hmg
  exact lawG kin T.T.g T.T.b T.T.builtins T.T.nolimit hg hobj hints (Nat.le_trans hlen hn2)
    ⟨hr, rfl⟩ hF hb (fun H hO hS => hsp _ H a ns hlen hbits hO hS)
end G
namespace G
open PySem PySem.Spec PyProof.Rows L2

/-! ### repr of data -/

mutual
def cw : PyData → Nat
  | .none => 4
  | .bool _ => 5
  | .int _ => 1930
  | .str x => 10 * x.length + 4
  | .list xs => cws xs + 2
  | .tuple xs => cws xs + 2
  | .dict _ => 0
def cws : List PyData → Nat
  | [] => 0
  | x :: xs => cw x + 2 + cws xs
end
mutual
/-- it may be shown: ints of few bits, texts of plain signs, no dict -/
def shw : PyData → Bool
  | .none => true
  | .bool _ => true
  | .int i => decide (i.natAbs.log2 < 1920)
  | .str x => x.cps.toList.all fun c => decide (c < 16 ^ 8)
  | .list xs => shws xs
  | .tuple xs => shws xs
  | .dict _ => false
def shws : List PyData → Bool
  | [] => true
  | x :: xs => shw x && shws xs
end
theorem list_text (ts : List Str) : (listText ts).length ≤ piled ts + 2 := by
  unfold listText
  rw [strLen_append]
  have e1 : (("[" : Str)).length = 1 := by decide +kernel
  have e2 : (("]" : Str)).length = 1 := by decide +kernel
  cases ts with
  | nil =>
    show (("[" : Str)).length + (("]" : Str)).length ≤ _
    omega
  | cons t r =>
    have q := textFrom_length_pos r 1 (("[" : Str) ++ (if 0 > 0 then ", " else "" : String) ++ t) (by decide)
    have e3 : ((if 0 > 0 then ", " else "" : String) : Str).length = 0 := by decide +kernel
    have q2 : (textFrom 0 "[" (t :: r)).length = (("[" : Str) ++ (if 0 > 0 then ", " else "" : String) ++ t).length + piled r := q
    rw [q2, strLen_append, strLen_append, piled_cons]
    omega
mutual
theorem shown_len : ∀ d : PyData, shw d = true → d.shown.length ≤ cw d
  | .none, _ => by simp only [PyData.shown, cw]; decide +kernel
  | .bool b, _ => by cases b <;> (simp only [PyData.shown, cw]; decide +kernel)
  | .int i, h => by
    simp only [shw, decide_eq_true_eq] at h
    simp only [PyData.shown, cw]
    have q := int_text_length_le (a := i) (k := 1920) (by decide) h
    rw [PySem.ofString_length]
    omega
  | .str x, h => by
    simp only [shw, List.all_eq_true, decide_eq_true_eq] at h
    simp only [PyData.shown, cw]
    have q := StrLaws.reprText_len x h
    omega
  | .list xs, h => by
    simp only [shw] at h
    simp only [PyData.shown, cw]
    exact Nat.le_trans (list_text _) (Nat.add_le_add_right (shown_lens xs h) 2)
  | .tuple xs, h => by
    simp only [shw] at h
    simp only [PyData.shown, cw]
    exact Nat.le_trans (fmt_text _) (Nat.add_le_add_right (shown_lens xs h) 2)
  | .dict _, h => by simp only [shw] at h; cases h
theorem shown_lens : ∀ ds : List PyData, shws ds = true → piled (PyData.shownAll ds) ≤ cws ds
  | [], _ => Nat.zero_le _
  | d :: ds, h => by
    simp only [shws, Bool.and_eq_true] at h
    simp only [PyData.shownAll, cws, piled_cons]
    have q1 := shown_len d h.1
    have q2 := shown_lens ds h.2
    omega
end
mutual
theorem shw_showable : ∀ d : PyData, shw d = true → d.showable = true ∧ d.hasDict = false
  | .none, _ => ⟨rfl, rfl⟩
  | .bool _, _ => ⟨rfl, rfl⟩
  | .int i, h => ⟨by simpa only [shw, PyData.showable] using h, rfl⟩
  | .str x, _ => ⟨rfl, rfl⟩
  | .list xs, h => by
    simp only [shw] at h
    simpa only [PyData.showable, PyData.hasDict] using shws_showable xs h
  | .tuple xs, h => by
    simp only [shw] at h
    simpa only [PyData.showable, PyData.hasDict] using shws_showable xs h
  | .dict _, h => by simp only [shw] at h; cases h
theorem shws_showable : ∀ ds : List PyData, shws ds = true →
    PyData.showableAll ds = true ∧ PyData.hasDictAll ds = false
  | [], _ => ⟨rfl, rfl⟩
  | d :: ds, h => by
    simp only [shws, Bool.and_eq_true] at h
    obtain ⟨a, b⟩ := shw_showable d h.1
    obtain ⟨e, f⟩ := shws_showable ds h.2
    simp only [PyData.showableAll, PyData.hasDictAll, a, b, e, f]
    exact ⟨rfl, rfl⟩
end
/-- repr(x), x data -/
def rRepr (K : PySem.W.Frag) : List V → Hp → VK → Prop := fun xs H Q =>
  ∃ x d, xs = [x] ∧ Dp K H x d ∧ shw d = true ∧ d.depth ≤ 60 ∧ cw d ≤ sizeLine ∧ Q (.str d.shown) H
theorem call_repr {X : Cx} (hg : X.A.guards = some []) (hu : X.A.units + 64 < cLine) :
    CallR X (.builtin "repr") (rRepr X.K) := by
  intro pins s σ H vs us Q I rv h
  obtain ⟨x, d, rfl, hd, hs, hdp, hz, q⟩ := h
  obtain ⟨hs1, hs2⟩ := shw_showable d hs
  have hz2 := Nat.le_trans (shown_len d hs) hz
  cases rv with
  | cons r rn =>
    cases rn
    obtain ⟨as, hr⟩ := Dp.reads I d _ _ hd r
    cases hr with
    | none => exact PySem.P.repr_of_none ⟨.str _, H, I.tok _, ⟨_, rfl⟩, q⟩
    | bool b => exact PySem.P.repr_of_bool ⟨.str _, H, I.tok _, ⟨_, rfl⟩, q⟩
    | int i t =>
      refine PySem.P.repr_of_int ?_ ⟨.str _, H, I.tok _, ⟨_, rfl⟩, q⟩
      first | exact hs | simpa only [shw, decide_eq_true_eq] using hs
    | str y t => exact PySem.P.repr_of_str ⟨.str _, H, I.tok _, ⟨_, rfl⟩, q⟩ hz2
    | list h1 h2 h3 h4 =>
      refine repr_of_reads' (Reads.list h1 h2 h3 h4) hs1 (fun y => by rw [hs2] at y; cases y) hg
        (by omega) (fun _ _ e => e) (fun h' u tk hk => ?_) hz2
      exact ⟨.str _, H, I.kept hk, ⟨_, rfl⟩, q⟩
    | tuple h1 h2 h3 h4 =>
      refine repr_of_reads' (Reads.tuple h1 h2 h3 h4) hs1 (fun y => by rw [hs2] at y; cases y) hg
        (by omega) (fun _ _ e => e) (fun h' u tk hk => ?_) hz2
      exact ⟨.str _, H, I.kept hk, ⟨_, rfl⟩, q⟩
    | dict h1 h2 h3 h4 h5 => simp only [PyData.hasDict] at hs2; cases hs2
end G
namespace G
open PySem PySem.Spec PyProof.Rows L2

/-! ### heaps: what is kept -/
/-- x is not yet tracked -/
structure Fr (H : Hp) (x : Addr) : Prop where
  e : H x = none
theorem fr_ne {H : Hp} {a b : Addr} {o : HO} (h : H a = some o) (f : Fr H b) : a ≠ b := ne_of_none h f.e
/-- what nothing changes -/
def Fix : HO → Prop
  | .tup _ => True
  | .frz _ _ => True
  | _ => False
/-- all that H tracks is as it was, but perhaps what stands at ws -/
structure Kp (ws : List Addr) (H H' : Hp) : Prop where
  at_ : ∀ a u, H a = some u → a ∉ ws → H' a = some u
  fix : ∀ a u, H a = some u → Fix u → H' a = some u
  dom : ∀ a u, H a = some u → ∃ v, H' a = some v
section
variable {ws us : List Addr} {H H1 H2 : Hp} {p : Addr} {o u : HO}
theorem Kp.refl : Kp ws H H := ⟨fun _ _ h _ => h, fun _ _ h _ => h, fun _ u h => ⟨u, h⟩⟩
theorem Kp.trans (a : Kp ws H H1) (b : Kp ws H1 H2) : Kp ws H H2 :=
  ⟨fun c u h n => b.at_ c u (a.at_ c u h n) n, fun c u h f => b.fix c u (a.fix c u h f) f,
    fun c u h => let ⟨v, e⟩ := a.dom c u h; b.dom c v e⟩
theorem Kp.mono (a : Kp ws H H1) (h : ∀ b ∈ ws, b ∈ us) : Kp us H H1 :=
  ⟨fun c u e n => a.at_ c u e fun q => n (h c q), a.fix, a.dom⟩
theorem Kp.wide (a : Kp [] H H1) : Kp ws H H1 := a.mono fun b h => (nomatch h)
theorem Kp.free (a : Kp ws H H1) (f : Fr H1 p) : Fr H p := by
  have h := f.e
  constructor
  cases q : H p with
  | none => rfl
  | some u =>
    obtain ⟨v, e⟩ := a.dom p u q
    rw [h] at e
    cases e
theorem Kp.new (f : Fr H p) : Kp ws H (upd H p o) := by
  have h := f.e
  have k : ∀ a u, H a = some u → upd H p o a = some u := fun a u e => by
    rw [upd_ne (ne_of_none e h)]
    exact e
  exact ⟨fun a u e _ => k a u e, fun a u e _ => k a u e, fun a u e => ⟨u, k a u e⟩⟩
/-- what H does not know may be written -/
theorem Kp.upd (a : Kp ws H H1) (f : Fr H p) : Kp ws H (upd H1 p o) := by
  have h := f.e
  have k : ∀ b u, H b = some u → L2.upd H1 p o b = H1 b := fun b u e => upd_ne (ne_of_none e h)
  exact ⟨fun b u e n => (k b u e).trans (a.at_ b u e n), fun b u e f => (k b u e).trans (a.fix b u e f),
    fun b u e => let ⟨v, q⟩ := a.dom b u e; ⟨v, (k b u e).trans q⟩⟩
theorem Kp.mut (h : H p = some u) (nf : ¬ Fix u) (hp : p ∈ ws) : Kp ws H (L2.upd H p o) := by
  refine ⟨fun a v e n => ?_, fun a v e f => ?_, fun a v e => ?_⟩
  · rw [upd_ne (fun (q : a = p) => n (by rw [q]; exact hp))]
    exact e
  · have q : a ≠ p := by
      intro q
      subst q
      rw [h] at e
      cases e
      exact nf f
    rw [upd_ne q]
    exact e
  · by_cases q : a = p
    · exact ⟨o, by rw [q, upd_same]⟩
    · exact ⟨v, by rw [upd_ne q]; exact e⟩
theorem Kp.upm {ys : List V} (a : Kp ws H H1) (h : H1 p = some (.lst ys)) (hp : p ∈ ws) :
    Kp ws H (L2.upd H1 p o) := a.trans (Kp.mut h (fun z => z) hp)
/-- what H does not know need not be named -/
theorem Kp.drop (a : Kp (p :: ws) H H1) (f : Fr H p) : Kp ws H H1 :=
  have h := f.e
  ⟨fun b u e n => a.at_ b u e (fun q => (List.mem_cons.mp q).elim (fun z => by
    rw [z, h] at e
    cases e) n), a.fix, a.dom⟩
theorem Kp.dropAll (a : Kp us H H1) (h : ∀ b ∈ us, b ∈ ws ∨ Fr H b) : Kp ws H H1 :=
  ⟨fun b u e n => a.at_ b u e (fun q => (h b q).elim n (fun z => by
    rw [z.e] at e
    cases e)), a.fix, a.dom⟩
theorem Kp.seqL {K : PySem.W.Frag} {l : Addr} {xs : List V} (a : Kp ws H H1) (n : l ∉ ws)
    (h : SqL K H l xs) : SqL K H1 l xs := by
  rcases h with (h | ⟨o, h⟩) | h
  · exact .inl (.inl (a.at_ _ _ h n))
  · exact .inl (.inr ⟨o, a.fix _ _ h trivial⟩)
  · exact .inr h
theorem Kp.seqT {K : PySem.W.Frag} {l : Addr} {xs : List V} (a : Kp ws H H1)
    (h : SqT K H l xs) : SqT K H1 l xs := by
  rcases h with (h | ⟨o, h⟩) | h
  · exact .inl (.inl (a.fix _ _ h trivial))
  · exact .inl (.inr ⟨o, a.fix _ _ h trivial⟩)
  · exact .inr h
end
mutual
/-- data that nothing changes: no list, no dict -/
def imm : PyData → Bool
  | .none => true
  | .bool _ => true
  | .int _ => true
  | .str _ => true
  | .tuple xs => imms xs
  | .list _ => false
  | .dict _ => false
def imms : List PyData → Bool
  | [] => true
  | x :: xs => imm x && imms xs
end
section
variable {K : PySem.W.Frag} {ws : List Addr} {H H1 : Hp}
mutual
theorem dp_imm (k : Kp ws H H1) : ∀ (d : PyData) (v : V), imm d = true → Dp K H v d → Dp K H1 v d
  | .none, _, _, h => by cases h; exact .non
  | .bool b, _, _, h => by cases h; exact .bl b
  | .int i, _, _, h => by cases h; exact .int i
  | .str x, _, _, h => by cases h; exact .str x
  | .tuple ds, _, hi, h => by
    cases h with
    | tup hs ha => exact .tup (k.seqT hs) (dpa_imm k ds _ (by simpa only [G.imm] using hi) ha)
  | .list _, _, hi, _ => by simp only [G.imm] at hi; cases hi
  | .dict _, _, hi, _ => by simp only [G.imm] at hi; cases hi
theorem dpa_imm (k : Kp ws H H1) : ∀ (ds : List PyData) (vs : List V), imms ds = true →
    DpAll K H vs ds → DpAll K H1 vs ds
  | [], _, _, h => by cases h; exact .nil
  | d :: ds, _, hi, h => by
    simp only [imms, Bool.and_eq_true] at hi
    cases h with
    | cons h1 h2 => exact .cons (dp_imm k d _ hi.1 h1) (dpa_imm k ds _ hi.2 h2)
end
theorem dpa_len : ∀ {ds : List PyData} {vs : List V}, DpAll K H vs ds → vs.length = ds.length
  | [], _, h => by cases h; rfl
  | _ :: ds, _, h => by
    cases h with
    | cons _ h2 => rw [List.length_cons, List.length_cons, dpa_len h2]
theorem dpa_app : ∀ {ds es : List PyData} {vs ys : List V}, DpAll K H vs ds → DpAll K H ys es →
    DpAll K H (vs ++ ys) (ds ++ es)
  | [], _, _, _, h, g => by cases h; exact g
  | _ :: _, _, _, _, h, g => by
    cases h with
    | cons h1 h2 => exact .cons h1 (dpa_app h2 g)
theorem dpa_get : ∀ {ds : List PyData} {vs : List V} {i : Nat} {d : PyData}, DpAll K H vs ds →
    ds[i]? = some d → ∃ v, vs[i]? = some v ∧ Dp K H v d
  | [], _, _, _, _, e => by simp at e
  | _ :: _, _, 0, _, h, e => by
    cases h with
    | cons h1 h2 =>
      simp at e
      subst e
      exact ⟨_, rfl, h1⟩
  | _ :: _, _, i + 1, _, h, e => by
    cases h with
    | cons h1 h2 =>
      obtain ⟨v, q, r⟩ := dpa_get (i := i) h2 (by simpa using e)
      exact ⟨v, by simpa using q, r⟩
theorem dpa_getV : ∀ {ds : List PyData} {vs : List V} {i : Nat} {v : V}, DpAll K H vs ds →
    vs[i]? = some v → ∃ d, ds[i]? = some d ∧ Dp K H v d
  | [], _, _, _, h, e => by cases h; simp at e
  | _ :: _, _, 0, _, h, e => by
    cases h with
    | cons h1 h2 =>
      simp at e
      subst e
      exact ⟨_, rfl, h1⟩
  | _ :: _, _, i + 1, _, h, e => by
    cases h with
    | cons h1 h2 =>
      obtain ⟨d, q, r⟩ := dpa_getV (i := i) h2 (by simpa using e)
      exact ⟨d, by simpa using q, r⟩
theorem dpa_set : ∀ {ds : List PyData} {vs : List V} {i : Nat} {v : V} {d : PyData},
    DpAll K H vs ds → Dp K H v d → DpAll K H (vs.set i v) (ds.set i d)
  | [], _, _, _, _, h, _ => by cases h; exact .nil
  | _ :: _, _, 0, _, _, h, g => by
    cases h with
    | cons h1 h2 => exact .cons g h2
  | _ :: _, _, i + 1, _, _, h, g => by
    cases h with
    | cons h1 h2 => exact .cons h1 (dpa_set h2 g)
theorem dpa_take : ∀ {ds : List PyData} {vs : List V} (i : Nat),
    DpAll K H vs ds → DpAll K H (vs.take i) (ds.take i)
  | [], _, _, h => by cases h; simp; exact .nil
  | _ :: _, _, 0, h => by simp; exact .nil
  | _ :: _, _, i + 1, h => by
    cases h with
    | cons h1 h2 => exact .cons h1 (dpa_take i h2)
theorem dpa_drop : ∀ {ds : List PyData} {vs : List V} (i : Nat),
    DpAll K H vs ds → DpAll K H (vs.drop i) (ds.drop i)
  | [], _, _, h => by cases h; simp; exact .nil
  | _ :: _, _, 0, h => by simpa using h
  | _ :: _, _, i + 1, h => by
    cases h with
    | cons h1 h2 => exact dpa_drop i h2
theorem dpa_one {v : V} {d : PyData} (h : Dp K H v d) : DpAll K H [v] [d] := .cons h .nil
/-- a tuple of two ints -/
abbrev d2 (p : Int × Int) : PyData := .tuple [.int p.1, .int p.2]
theorem dp_pair {v : V} {p : Int × Int} (h : Dp K H v (d2 p)) :
    ∃ a, v = .ref a ∧ SqT K H a [.int p.1, .int p.2] := by
  cases h with
  | tup hs ha =>
    cases ha with
    | cons h1 h2 =>
      cases h2 with
      | cons h3 h4 =>
        cases h4
        cases h1
        cases h3
        exact ⟨_, rfl, hs⟩
theorem dp_mk2 {a : Addr} {m n : Int} (h : SqT K H a [.int m, .int n]) :
    Dp K H (.ref a) (d2 (m, n)) := .tup h (.cons (.int m) (.cons (.int n) .nil))
theorem imms_d2 : ∀ l : List (Int × Int), imms (l.map d2) = true
  | [] => rfl
  | _ :: l => by
    simp only [List.map_cons, imms, G.imm, imms_d2 l]
    rfl
/-- a list of our own, of data that nothing changes -/
def LD (K : PySem.W.Frag) (H : Hp) (l : Addr) (ds : List PyData) : Prop :=
  ∃ vs, H l = some (.lst vs) ∧ DpAll K H vs ds
theorem LD.dp {l : Addr} {ds : List PyData} (h : LD K H l ds) : Dp K H (.ref l) (.list ds) := by
  obtain ⟨vs, e, q⟩ := h
  exact .lst (SqL.of e) q
theorem LD.kp {l : Addr} {ds : List PyData} (h : LD K H l ds) (k : Kp ws H H1) (hi : imms ds = true)
    (n : l ∉ ws) : LD K H1 l ds := by
  obtain ⟨vs, e, q⟩ := h
  exact ⟨vs, k.at_ _ _ e n, dpa_imm k _ _ hi q⟩
theorem LD.some {l : Addr} {ds : List PyData} (h : LD K H l ds) : H l ≠ none := by
  obtain ⟨vs, e, q⟩ := h
  rw [e]
  exact fun y => nomatch y
end
end G
namespace G
open PySem PySem.Spec PyProof.Rows L2

/-! ### one rule for several kinds of values -/
theorem orR {X : Cx} {f : Value → Value → Sem Value} {r r' : R2} (h : OpR X f r) (h' : OpR X f r') :
    OpR X f (fun x y H Q => r x y H Q ∨ r' x y H Q) := by
  intro pins s σ H x y v u Q I rx ry q
  cases q with
  | inl q => exact h pins s σ H x y v u Q I rx ry q
  | inr q => exact h' pins s σ H x y v u Q I rx ry q
theorem orC {X : Cx} {f : Value} {r r' : List V → Hp → VK → Prop} (h : CallR X f r)
    (h' : CallR X f r') : CallR X f (fun xs H Q => r xs H Q ∨ r' xs H Q) := by
  intro pins s σ H xs us Q I rx q
  cases q with
  | inl q => exact h pins s σ H xs us Q I rx q
  | inr q => exact h' pins s σ H xs us Q I rx q
def uAdd (K : PySem.W.Frag) : R2 := fun x y H Q => rI0 (fun i j => .int (i + j)) x y H Q ∨
  (∃ i j, x = .str i ∧ y = .str j ∧ i.length + j.length ≤ sizeLine ∧ Q (.str (i ++ j)) H) ∨
  rCat x y H Q ∨ rCatT K x y H Q
def uMul : R2 := fun x y H Q => rI CMul (fun i j => .int (i * j)) x y H Q ∨
  rI CMulW (fun i j => .int (i * j)) x y H Q ∨ rRep x y H Q
def uEq (K : PySem.W.Frag) : R2 := fun x y H Q => rEq x y H Q ∨ rEqD K x y H Q
def uNe (K : PySem.W.Frag) : R2 := fun x y H Q => rNe x y H Q ∨ rNeD K x y H Q
def uIx (K : PySem.W.Frag) : R2 := fun x y H Q => rIxL K x y H Q ∨ rIxT K x y H Q ∨ rIxS x y H Q
def uLen (K : PySem.W.Frag) : List V → Hp → VK → Prop := fun xs H Q =>
  (∃ p ys, xs = [.ref p] ∧ (SqL K H p ys ∨ SqT K H p ys) ∧ Q (.int ys.length) H) ∨
  (∃ z, xs = [.str z] ∧ z.length ≤ sizeLine ∧ Q (.int z.length) H)
section
variable {X : Cx}
theorem o_add : OpR X (binaryOp .Add) (uAdd X.K) := orR op_add (orR op_add_str (orR op_cat op_catT))
theorem o_mul : OpR X (binaryOp .Mult) uMul := orR op_mul (orR op_mulW op_rep)
theorem o_eq (hu : X.A.units + 64 < cLine) : OpR X (compareOp .Eq) (uEq X.K) := orR op_eq (op_eqD hu)
theorem o_ne (hu : X.A.units + 64 < cLine) : OpR X (compareOp .NotEq) (uNe X.K) := orR op_ne (op_neD hu)
theorem o_ix : IxR X (uIx X.K) := ix_list.or (ix_tup.or ix_str)
theorem c_len : CallR X (.builtin "len") (uLen X.K) := orC call_len_seq call_len_str
end

/-! ### readings from the front -/
section
variable {K : PySem.W.Frag} {σ : L2.St} {H : Hp} {Q : VK} {D : Ends} {t1 t2 : TS} {te ta tb tc : TE}
variable {i j : Nat} {v x y : V} {c u : TT} {tr : TA} {n m : Int} {b : Bool} {p : Addr}
variable {QB : Bool → Hp → Prop} {QA : List V → Hp → Prop} {xs : List V}
theorem i_seq (h : t1 { D with nx := t2 D } σ H) : tSeq t1 t2 D σ H := h
theorem i_next (h : D.nx σ H) : tNext D σ H := h
theorem i_set (h : te σ H fun x H1 => D.nx (σ.set i (some x)) H1) : tAsg te (gName i) D σ H := h
theorem i_asg {g : TG} (h : te σ H fun x H1 => g x σ H1 D.nx) : tAsg te g D σ H := h
theorem i_drop (h : te σ H fun _ H1 => D.nx σ H1) : tDrop te D σ H := h
theorem i_ret (h : te σ H D.rt) : tRet te D σ H := h
theorem i_retN (h : D.rt .non H) : tRetN D σ H := h
theorem i_brk (h : D.bk σ H) : tBreak D σ H := h
theorem i_cont (h : D.ct σ H) : tCont D σ H := h
theorem i_ifS (h : c σ H fun b H1 => if b = true then t1 D σ H1 else t2 D σ H1) : tIfS c t1 t2 D σ H := h
theorem i_aug {ti : TIp} (e : σ[i]? = some (some x))
    (h : te σ H fun y H1 => ti x y H1 fun z H2 => D.nx (σ.set i (some z)) H2) : tAug i te ti D σ H := ⟨x, e, h⟩
theorem i_ipI {f : Int → Int → Int} (h : Q (.int (f n m)) H) : ipI f (.int n) (.int m) H Q := ⟨n, m, rfl, rfl, h⟩
theorem i_par {i j : Nat} {tt : TA}
    (h : tt σ H fun vs H1 => ∃ v w, vs = [v, w] ∧ D.nx ((σ.set i (some v)).set j (some w)) H1) :
    tPar i j tt D σ H := h
theorem i_two {P : V → V → Prop} (h : P x y) : ∃ v w, [x, y] = [v, w] ∧ P v w := ⟨x, y, rfl, h⟩

theorem i_var (e : σ[i]? = some (some v)) (h : Q v H) : tVar i σ H Q := ⟨v, e, h⟩
theorem i_c (h : Q v H) : tC v σ H Q := h
theorem i_op {r : R2} (h : ta σ H fun x H1 => tb σ H1 fun y H2 => r x y H2 Q) : tOp r ta tb σ H Q := h
theorem i_un {r : V → Hp → VK → Prop} (h : ta σ H fun x H1 => r x H1 Q) : tUn r ta σ H Q := h
theorem i_I0 {g : Int → Int → V} (h : Q (g n m) H) : rI0 g (.int n) (.int m) H Q := ⟨n, m, rfl, rfl, h⟩
theorem i_I {g : Int → Int → V} {C : Int → Int → Prop} (hc : C n m) (h : Q (g n m) H) :
    rI C g (.int n) (.int m) H Q := ⟨n, m, rfl, rfl, hc, h⟩
theorem i_U {g : Int → V} (h : Q (g n) H) : rU g (.int n) H Q := ⟨n, rfl, h⟩
theorem i_addI (h : Q (.int (n + m)) H) : uAdd K (.int n) (.int m) H Q := .inl ⟨n, m, rfl, rfl, h⟩
theorem i_addS {z w : Str} (hz : z.length + w.length ≤ sizeLine) (h : Q (.str (z ++ w)) H) :
    uAdd K (.str z) (.str w) H Q := .inr (.inl ⟨z, w, rfl, rfl, hz, h⟩)
theorem i_mulI (hc : CMul n m) (h : Q (.int (n * m)) H) : uMul (.int n) (.int m) H Q :=
  .inl ⟨n, m, rfl, rfl, hc, h⟩
theorem i_mulW (hc : CMulW n m) (h : Q (.int (n * m)) H) : uMul (.int n) (.int m) H Q :=
  .inr (.inl ⟨n, m, rfl, rfl, hc, h⟩)
theorem i_eqI (h : Q (.bl (decide (n = m))) H) : uEq K (.int n) (.int m) H Q := by
  refine .inl ⟨rfl, ?_⟩
  have e : decide (V.int n = V.int m) = decide (n = m) := by
    rw [Bool.eq_iff_iff]
    simp
  rw [e]
  exact h
theorem i_neI (h : Q (.bl (!decide (n = m))) H) : uNe K (.int n) (.int m) H Q := by
  refine .inl ⟨rfl, ?_⟩
  have e : decide (V.int n = V.int m) = decide (n = m) := by
    rw [Bool.eq_iff_iff]
    simp
  rw [e]
  exact h
theorem i_eqS {z w : Str} (h : Q (.bl (decide (z = w))) H) : uEq K (.str z) (.str w) H Q := by
  refine .inl ⟨rfl, ?_⟩
  have e : decide (V.str z = V.str w) = decide (z = w) := by
    rw [Bool.eq_iff_iff]
    simp
  rw [e]
  exact h
theorem i_neS {z w : Str} (h : Q (.bl (!decide (z = w))) H) : uNe K (.str z) (.str w) H Q := by
  refine .inl ⟨rfl, ?_⟩
  have e : decide (V.str z = V.str w) = decide (z = w) := by
    rw [Bool.eq_iff_iff]
    simp
  rw [e]
  exact h
theorem i_eqD {d e : PyData} (hd : Dp K H x d) (he : Dp K H y e) (sd : SeqAt.shaped d = true)
    (se : SeqAt.shaped e = true) (h : Q (.bl (PyData.eqv d e)) H) : uEq K x y H Q :=
  .inr ⟨d, e, hd, he, sd, se, h⟩
theorem i_neD {d e : PyData} (hd : Dp K H x d) (he : Dp K H y e) (sd : SeqAt.shaped d = true)
    (se : SeqAt.shaped e = true) (h : Q (.bl (!PyData.eqv d e)) H) : uNe K x y H Q :=
  .inr ⟨d, e, hd, he, sd, se, h⟩
theorem i_ixL (hs : SqL K H p xs) (ha : atI xs n = some v) (h : Q v H) :
    uIx K (.ref p) (.int n) H Q := .inl ⟨p, xs, n, v, rfl, rfl, hs, ha, h⟩
theorem i_ixT (hs : SqT K H p xs) (ha : atI xs n = some v) (h : Q v H) :
    uIx K (.ref p) (.int n) H Q := .inr (.inl ⟨p, xs, n, v, rfl, rfl, hs, ha, h⟩)
theorem i_lenL (hs : SqL K H p xs) (h : Q (.int xs.length) H) : uLen K [.ref p] H Q :=
  .inl ⟨p, xs, rfl, .inl hs, h⟩
theorem i_lenT (hs : SqT K H p xs) (h : Q (.int xs.length) H) : uLen K [.ref p] H Q :=
  .inl ⟨p, xs, rfl, .inr hs, h⟩
theorem i_lenS {z : Str} (hz : z.length ≤ sizeLine) (h : Q (.int z.length) H) : uLen K [.str z] H Q :=
  .inr ⟨z, rfl, hz, h⟩

theorem i_test (h : te σ H fun x H1 => ∃ k, x = .bl k ∧ QB k H1) : tTest te σ H QB := h
theorem i_B (h : te σ H fun x H1 => ∃ k, x = .bl k ∧ QB k H1) : tB te σ H QB := h
theorem i_bl {P : Bool → Prop} (h : P b) : ∃ k, V.bl b = .bl k ∧ P k := ⟨b, rfl, h⟩
theorem i_and (h : c σ H fun b H1 => if b = true then u σ H1 QB else QB false H1) : tAnd c u σ H QB := h
theorem i_or (h : c σ H fun b H1 => if b = true then QB true H1 else u σ H1 QB) : tOr c u σ H QB := h
theorem i_not (h : c σ H fun b H1 => QB (!b) H1) : tNot c σ H QB := h
theorem i_andV (h : ta σ H fun x H1 => ∃ k, x = .bl k ∧ if k = true then tb σ H1 Q else Q (.bl false) H1) :
    tAndV ta tb σ H Q := h
theorem i_orV (h : ta σ H fun x H1 => ∃ k, x = .bl k ∧ if k = true then Q (.bl true) H1 else tb σ H1 Q) :
    tOrV ta tb σ H Q := h
theorem i_notV (h : ta σ H fun x H1 => ∃ k, x = .bl k ∧ Q (.bl (!k)) H1) : tNotV ta σ H Q := h
theorem i_ifE (h : c σ H fun b H1 => if b = true then ta σ H1 Q else tb σ H1 Q) : tIf c ta tb σ H Q := h
theorem i_chain {r r' : R2} (h : ta σ H fun x H1 => tb σ H1 fun y H2 => r x y H2 fun z H3 =>
    ∃ k, z = .bl k ∧ if k = true then tc σ H3 fun w H4 => r' y w H4 Q else Q (.bl false) H3) :
    tChain r r' ta tb tc σ H Q := h
theorem i_nil (h : QA [] H) : tNil σ H QA := h
theorem i_cons (h : te σ H fun x H1 => tr σ H1 fun xs H2 => QA (x :: xs) H2) : tCons te tr σ H QA := h
/-- for any new place -/
def New (H : Hp) (P : Addr → Prop) : Prop := ∀ p, H p = none → P p
theorem i_new {P : Addr → Prop} (h : ∀ p, Fr H p → P p) : New H P := fun p e => h p ⟨e⟩
theorem i_tup (h : tr σ H fun xs H1 => xs.length ≤ sizeLine ∧ New H1 fun p => Q (.ref p) (upd H1 p (.tup xs))) :
    tTup tr σ H Q := h
theorem i_lst (h : tr σ H fun xs H1 => xs.length ≤ sizeLine ∧ New H1 fun p => Q (.ref p) (upd H1 p (.lst xs))) :
    tLst tr σ H Q := h
theorem i_few {P : Prop} {n : Nat} (hn : n ≤ 1000) (h : P) : n ≤ sizeLine ∧ P :=
  ⟨Nat.le_trans hn (by decide), h⟩
theorem i_CB {r : List V → Hp → VK → Prop} (h : tr σ H fun vs H1 => r vs H1 Q) : tCB r tr σ H Q := h
theorem i_call {sp : Sp} {dvs : List V} {E : XK} (h : tr σ H fun vs H1 => sp (vs ++ dvs) H1 Q E) :
    tCall sp dvs E tr σ H Q := h
theorem i_BM {T : String} {r : V → List V → Hp → VK → Prop}
    (h : te σ H fun x H1 => tyV K T x H1 ∧ tr σ H1 fun xs H2 => r x xs H2 Q) : tBM K T r te tr σ H Q := h
theorem i_BM0 {T : String} {r : V → List V → Hp → VK → Prop}
    (h : te σ H fun x H1 => tyV K T x H1 ∧ r x [] H1 Q) : tBM0 K T r te σ H Q := h
theorem i_tyL {P : Prop} (hs : SqL K H p xs) (h : P) : tyV K "list" (.ref p) H ∧ P :=
  ⟨.inl ⟨rfl, xs, hs⟩, h⟩
theorem i_app (hs : H p = some (.lst xs)) (hz : xs.length < sizeLine)
    (h : Q .non (upd H p (.lst (xs ++ [y])))) : rAppend (.ref p) [y] H Q := ⟨p, xs, y, rfl, rfl, hs, hz, h⟩
theorem i_repr {d : PyData} (hd : Dp K H x d) (hs : shw d = true) (hdp : d.depth ≤ 60)
    (hz : cw d ≤ sizeLine) (h : Q (.str d.shown) H) : rRepr K [x] H Q := ⟨x, d, rfl, hd, hs, hdp, hz, h⟩
theorem i_setL {S : Hp → Prop} {k : Nat} (hs : H p = some (.lst xs)) (hj : ixN xs.length n = some k)
    (h : S (upd H p (.lst (xs.set k v)))) : rSetL (.ref p) (.int n) v H S := ⟨p, xs, n, k, rfl, rfl, hs, hj, h⟩
theorem i_iList {R : It → Hp → Prop} (h : te σ H fun x H1 => ∃ a, x = .ref a ∧ (∃ xs, SqL K H1 a xs) ∧ R (Itl K a) H1) :
    iList K te σ H R := h
theorem i_For {wi : TI} {g : TG} (h : wi σ H fun J H1 => ∃ W : Nat → Nat → L2.St → Hp → Prop, (∃ m, W 0 m σ H1) ∧ ∀ i m σ H, W i m σ H →
    (J.stop i H ∧ D.nx σ H) ∨ (J.go i H ∧ ∃ Nx : L2.St → Hp → Prop, (∀ σ' H', Nx σ' H' → ∃ m', m' < m ∧ W (i + 1) m' σ' H') ∧
      ∀ x H', J.yld i H x H' → g x σ H' fun σ2 H2 => t1 { D with nx := Nx, ct := Nx, bk := D.nx } σ2 H2)) :
    tFor wi g t1 D σ H := h
theorem i_iteT {A B : Prop} (h : A) : if true = true then A else B := iteT h
theorem i_iteF {A B : Prop} (h : B) : if false = true then A else B := iteF h
theorem i_ntT {A B : Prop} (h : B) : if (!true) = true then A else B := iteF h
theorem i_ntF {A B : Prop} (h : A) : if (!false) = true then A else B := iteT h
theorem i_dec {p A B : Prop} [Decidable p] (h1 : p → A) (h2 : ¬ p → B) :
    if decide p = true then A else B := by
  by_cases h : p
  · rw [decide_eq_true h]
    exact iteT (h1 h)
  · rw [decide_eq_false h]
    exact iteF (h2 h)
theorem i_decN {p A B : Prop} [Decidable p] (h1 : ¬ p → A) (h2 : p → B) :
    if (!decide p) = true then A else B := by
  by_cases h : p
  · rw [decide_eq_true h]
    exact iteF (h2 h)
  · rw [decide_eq_false h]
    exact iteT (h1 h)
theorem i_boo {b : Bool} {A B : Prop} (h1 : b = true → A) (h2 : b = false → B) :
    if b = true then A else B := by
  cases b
  · exact iteF (h2 rfl)
  · exact iteT (h1 rfl)
end
section
variable {P : Program} {w : World} {K : PySem.W.Frag} {mg : Str → Option Value} {base : Heap}
/-- a def of the text, by its body -/
theorem okG {x qual : Str} {st : Stmt} {f : Addr} {fd : FuncData} {N ps : List Str} {k : Nat} {sp : Sp}
    (F : L2.Fun K x qual st f fd) (S : FnScope N ps (defScope st))
    (len : ∀ vs H Q E, sp vs H Q E → vs.length = ps.length)
    (hb : ∀ (cdv : Value) (A : Around) (outer : List Env) (s : Shared) (H : Hp) (vs : List V)
      (Q : VK) (E : XK), RoomG k (A.deeper (envOfC qual (defScope st) s.heap.objs.size f cdv)) →
      sp vs H Q E →
      ∃ t, PSs (cxOf (L2.CX P w) P w K mg base N qual (defScope st) f cdv A outer s H E) (defBody st) t ∧
        t { nx := fun _ H' => Q .non H', rt := Q } (start N vs) H) :
    FnG P w K mg base (k + 1) f fd ps sp := by
  obtain ⟨oc, od, kV, doc, pm, an, cdv, ct, osl, rfl, lk, hcd⟩ := F.ex
  exact FnG.body lk hcd S len fun A outer s H vs Q E z h => hb cdv A outer s H vs Q E z h
end
end G
namespace G
open PySem PySem.Spec PyProof.Rows L2
section
variable {K : PySem.W.Frag} {σ : L2.St} {H : Hp} {Q : VK} {D : Ends} {tb : TS} {te : TE} {g : TG}
variable {a p q l : Addr} {xs vs : List V} {v x y : V} {ds : List PyData} {S : L2.St → Hp → Prop}
theorem st_1 {N : List Str} {a : V} : L2.start N [a] = some a :: List.replicate (N.length - 1) none := rfl
theorem st_2 {N : List Str} {a b : V} : L2.start N [a, b] = some a :: some b :: List.replicate (N.length - 2) none := rfl
theorem st_3 {N : List Str} {a b c : V} :
    L2.start N [a, b, c] = some a :: some b :: some c :: List.replicate (N.length - 3) none := rfl
theorem st_4 {N : List Str} {a b c d : V} : L2.start N [a, b, c, d] =
    some a :: some b :: some c :: some d :: List.replicate (N.length - 4) none := rfl
theorem st_5 {N : List Str} {a b c d e : V} : L2.start N [a, b, c, d, e] =
    some a :: some b :: some c :: some d :: some e :: List.replicate (N.length - 5) none := rfl
theorem st_6 {N : List Str} {a b c d e f : V} : L2.start N [a, b, c, d, e, f] =
    some a :: some b :: some c :: some d :: some e :: some f :: List.replicate (N.length - 6) none := rfl
theorem i_gTup {n : Nat} {t : TGs} (hs : SqT K H p xs) (hl : xs.length = n) (h : t xs σ H S) :
    gTup K n t (.ref p) σ H S := ⟨p, xs, rfl, hs, hl, h⟩
theorem i_gCons {t : TG} {u : TGs} (h : t v σ H fun σ' H' => u xs σ' H' S) :
    gCons t u (v :: xs) σ H S := ⟨v, xs, rfl, h⟩
theorem i_gNil (h : S σ H) : gNil [] σ H S := ⟨rfl, h⟩
theorem i_gName {i : Nat} (h : S (σ.set i (some v)) H) : gName i v σ H S := h
theorem i_gSub {to ti : TE} {t : TSet} (h : to σ H fun o H1 => ti σ H1 fun i H2 => t o i v H2 fun H3 => S σ H3) :
    gSub to ti t v σ H S := h
/-- a for over x, a list -/
def ForL (K : PySem.W.Frag) (x : V) (g : TG) (tb : TS) (D : Ends) (σ : L2.St) (H : Hp) : Prop :=
  ∃ a, x = .ref a ∧ (∃ ys, SqL K H a ys) ∧ ∃ W : Nat → Nat → L2.St → Hp → Prop,
    (∃ m, W 0 m σ H) ∧ ∀ i m σ H, W i m σ H → ((Itl K a).stop i H ∧ D.nx σ H) ∨
      ((Itl K a).go i H ∧ ∃ Nx : L2.St → Hp → Prop,
        (∀ σ' H', Nx σ' H' → ∃ m', m' < m ∧ W (i + 1) m' σ' H') ∧
        ∀ x H', (Itl K a).yld i H x H' → g x σ H' fun σ2 H2 =>
          tb { D with nx := Nx, ct := Nx, bk := D.nx } σ2 H2)
theorem i_forL (h : te σ H fun x H1 => ForL K x g tb D σ H1) : tFor (iList K te) g tb D σ H := h
theorem i_each (hs : SqL K H a xs) (Pv : Nat → L2.St → Hp → Prop) (h0 : Pv 0 σ H)
    (hl : ∀ i σ H, i ≤ xs.length → Pv i σ H → SqL K H a xs)
    (st : ∀ i x σ H, xs[i]? = some x → Pv i σ H → g x σ H fun σ2 H2 =>
      tb { D with nx := Pv (i + 1), ct := Pv (i + 1), bk := D.nx } σ2 H2)
    (hd : ∀ σ H, Pv xs.length σ H → D.nx σ H) : ForL K (.ref a) g tb D σ H :=
  ⟨a, rfl, ⟨_, hs⟩, for_list Pv h0 hl st hd⟩
/-- a for over range(n) -/
def ForR (vs : List V) (g : TG) (tb : TS) (D : Ends) (σ : L2.St) (H : Hp) : Prop :=
  ∃ j : Int, vs = [.int j] ∧ -(2 ^ 62) ≤ j ∧ j < 2 ^ 62 ∧
    ∃ W : Nat → Nat → L2.St → Hp → Prop, (∃ m, W 0 m σ H) ∧ ∀ i m σ H, W i m σ H →
      ((Itr 0 j.toNat).stop i H ∧ D.nx σ H) ∨ ((Itr 0 j.toNat).go i H ∧ ∃ Nx : L2.St → Hp → Prop,
        (∀ σ' H', Nx σ' H' → ∃ m', m' < m ∧ W (i + 1) m' σ' H') ∧
        ∀ x H', (Itr 0 j.toNat).yld i H x H' → g x σ H' fun σ2 H2 =>
          tb { D with nx := Nx, ct := Nx, bk := D.nx } σ2 H2)
theorem i_forR {ta : TA} (h : ta σ H fun vs H1 => ForR vs g tb D σ H1) : tFor (iRng1 ta) g tb D σ H := h
theorem i_turns {n : Int} (b1 : 0 ≤ n) (b2 : n < 2 ^ 62) (Pv : Nat → L2.St → Hp → Prop) (h0 : Pv 0 σ H)
    (st : ∀ (i : Nat) σ H, (i : Int) < n → Pv i σ H → g (.int i) σ H fun σ2 H2 =>
      tb { D with nx := Pv (i + 1), ct := Pv (i + 1), bk := D.nx } σ2 H2)
    (hd : ∀ σ H, Pv n.toNat σ H → D.nx σ H) : ForR [.int n] g tb D σ H := by
  refine ⟨n, rfl, by omega, b2, for_range Pv h0 (fun i σ H hi q => ?_) hd⟩
  have e : V.int (0 + (i : Int)) = V.int i := by rw [Int.zero_add]
  rw [e]
  exact st i σ H (by omega) q

theorem canLay_pairs : ∀ l : List (Int × Int), PyData.canLayAll0 (l.map d2) = true
  | [] => rfl
  | p :: l => by
    simp only [List.map_cons, PyData.canLayAll0, PyData.canLay0, canLay_pairs l]
    rfl
theorem depth_pairs : ∀ l : List (Int × Int), PyData.depthAll (l.map d2) ≤ 1
  | [] => Nat.zero_le _
  | p :: l => by
    simp only [List.map_cons, PyData.depthAll, PyData.depth]
    have q := depth_pairs l
    omega
theorem shaped_of {d : PyData} (h : d.canLay0 = true) (hd : d.depth ≤ 64) : SeqAt.shaped d = true := by
  unfold SeqAt.shaped
  rw [h, decide_eq_true hd]
  rfl
theorem shaped_pairs (l : List (Int × Int)) : SeqAt.shaped (.list (l.map d2)) = true := by
  refine shaped_of ?_ ?_
  · simp only [PyData.canLay0]
    exact canLay_pairs l
  · simp only [PyData.depth]
    have q := depth_pairs l
    omega
theorem shaped_nil : SeqAt.shaped (.list []) = true := by decide +kernel
theorem eqv_nil (ds : List PyData) : PyData.eqv (.list ds) (.list []) = ds.isEmpty := by
  cases ds <;> simp [PyData.eqv, PyData.eqvAll]
/-- xs == [], xs != [] -/
theorem eq_nil (ld : LD K H l ds) (hi : imms ds = true) (hs : SeqAt.shaped (.list ds) = true)
    (hq : Fr H q) (h : Q (.bl ds.isEmpty) (upd H q (.lst []))) :
    uEq K (.ref l) (.ref q) (upd H q (.lst [])) Q := by
  refine i_eqD (LD.dp (ld.kp (Kp.new hq) hi List.not_mem_nil)) (.lst (SqL.of upd_same) .nil) hs
    shaped_nil ?_
  rw [eqv_nil]
  exact h
theorem ne_nil (ld : LD K H l ds) (hi : imms ds = true) (hs : SeqAt.shaped (.list ds) = true)
    (hq : Fr H q) (h : Q (.bl (!ds.isEmpty)) (upd H q (.lst []))) :
    uNe K (.ref l) (.ref q) (upd H q (.lst [])) Q := by
  refine i_neD (LD.dp (ld.kp (Kp.new hq) hi List.not_mem_nil)) (.lst (SqL.of upd_same) .nil) hs
    shaped_nil ?_
  rw [eqv_nil]
  exact h
theorem dpa_last {d : PyData} : ∀ {ds : List PyData} {vs : List V}, DpAll K H vs (ds ++ [d]) →
    ∃ us x, vs = us ++ [x] ∧ DpAll K H us ds ∧ Dp K H x d
  | [], _, h => by
    cases h with
    | cons h1 h2 =>
      cases h2
      exact ⟨[], _, rfl, .nil, h1⟩
  | _ :: ds, _, h => by
    cases h with
    | cons h1 h2 =>
      obtain ⟨us, x, e, q1, q2⟩ := dpa_last h2
      exact ⟨_ :: us, x, by rw [e]; rfl, .cons h1 q1, q2⟩
theorem list_last {α : Type} {l : List α} (h : l ≠ []) : ∃ f q, l = f ++ [q] :=
  ⟨l.dropLast, l.getLast h, (List.dropLast_concat_getLast h).symm⟩
theorem ix_last (n : Nat) : ixN (n + 1) (-1) = some n := by
  unfold ixN
  rw [if_neg (by decide), if_pos (by omega)]
  congr 1
  omega
theorem set_last {α : Type} (l : List α) (a b : α) : (l ++ [a]).set l.length b = l ++ [b] := by
  rw [List.set_append_right _ _ (Nat.le_refl _)]
  simp
theorem upd_nn {o : HO} {u : Option HO} {b : Addr} (h : b ≠ a) (k : H b = u) : upd H a o b = u :=
  (upd_ne h).trans k
/-- what is not tracked then was not tracked before -/
def Old (H H' : Hp) : Prop := ∀ a, H' a = none → H a = none
theorem Old.refl : Old H H := fun _ h => h
theorem old_upd {H1 : Hp} {o : HO} (h : Old H H1) : Old H (upd H1 p o) := fun x e => by
  refine h x ?_
  by_cases z : x = p
  · rw [z, upd_same] at e
    cases e
  · rw [upd_ne z] at e
    exact e
theorem old_kp {H1 H2 : Hp} {ws : List Addr} (k : Kp ws H1 H2) (h : Old H H1) : Old H H2 :=
  fun x e => h x (k.free ⟨e⟩).e
theorem fr_of {H1 : Hp} {x : Addr} (h : Fr H1 x) (o : Old H H1) : Fr H x := ⟨o x h.e⟩
theorem small_sz {n : Nat} (h : n ≤ 1000000) : n < sizeLine := Nat.lt_of_le_of_lt h (by decide)
theorem sqT_new {o : HO} (h : SqT K H a xs) (hq : Fr H q) : SqT K (upd H q o) a xs :=
  (Kp.new (ws := []) hq).seqT h
theorem sqT_lst {o : HO} {ys : List V} (h : SqT K H a xs) (hq : H q = some (.lst ys)) :
    SqT K (upd H q o) a xs :=
  (Kp.mut (ws := [q]) hq (fun z => z) (List.mem_singleton.mpr rfl)).seqT h
theorem i_boN {b : Bool} {A B : Prop} (h1 : b = false → A) (h2 : b = true → B) :
    if (!b) = true then A else B := by
  cases b
  · exact iteT (h1 rfl)
  · exact iteF (h2 rfl)
theorem map_get {α β : Type} {l : List α} {f : α → β} {i : Nat} {d : β} (h : (l.map f)[i]? = some d) :
    ∃ p, l[i]? = some p ∧ d = f p := by
  rw [List.getElem?_map] at h
  cases e : l[i]? with
  | none => rw [e] at h; cases h
  | some p => rw [e] at h; cases h; exact ⟨p, rfl, rfl⟩
end
end G
namespace G
open PySem PySem.Spec PyProof.Rows L2
section
variable {K : PySem.W.Frag} {σ : L2.St} {H : Hp} {Q : VK} {n m : Int} {a p : Addr} {xs : List V} {v : V}
def rAbs : List V → Hp → VK → Prop := fun xs H Q => ∃ i, xs = [.int i] ∧ Q (.int (if i < 0 then -i else i)) H
def rMax2 : List V → Hp → VK → Prop := fun xs H Q => ∃ i j, xs = [.int i, .int j] ∧ Q (.int (if j > i then j else i)) H
def rMin2 : List V → Hp → VK → Prop := fun xs H Q => ∃ i j, xs = [.int i, .int j] ∧ Q (.int (if j < i then j else i)) H
def rDm : List V → Hp → VK → Prop := fun xs H Q => ∃ i j, xs = [.int i, .int j] ∧ CDivP i j ∧
  ∀ p, H p = none → Q (.ref p) (upd H p (.tup [.int (i / j), .int (i % j)]))
def rListOf (K : PySem.W.Frag) : List V → Hp → VK → Prop := fun xs H Q => ∃ p ys, xs = [.ref p] ∧
  (SqL K H p ys ∨ SqT K H p ys) ∧ ∀ l, H l = none → Q (.ref l) (upd H l (.lst ys))
def rPow : R2 := rI CPow fun i j => .int (i ^ j.toNat)
def uMod : R2 := rI (fun _ j => 0 < j) fun i j => .int (i % j)
def uDiv : R2 := rI CDivW fun i j => .int (i / j)
theorem c_abs {X : Cx} : CallR X (.builtin "abs") rAbs := call_abs
theorem c_max2 {X : Cx} (hc : X.calm = true) : CallR X (.builtin "max") rMax2 := call_max2 hc
theorem c_min2 {X : Cx} (hc : X.calm = true) : CallR X (.builtin "min") rMin2 := call_min2 hc
theorem c_dm {X : Cx} : CallR X (.builtin "divmod") rDm := call_divmodW
theorem c_list {X : Cx} : CallR X (.type "list") (rListOf X.K) := call_list_of
theorem o_pow {X : Cx} : OpR X (binaryOp .Pow) rPow := op_pow
theorem o_mod {X : Cx} : OpR X (binaryOp .Mod) uMod := op_mod
theorem o_div {X : Cx} : OpR X (binaryOp .FloorDiv) uDiv := op_fdivW
theorem i_abs (h : Q (.int (n.natAbs : Int)) H) : rAbs [.int n] H Q := by
  refine ⟨n, rfl, ?_⟩
  have e : (if n < 0 then -n else n) = (n.natAbs : Int) := by split <;> omega
  rw [e]
  exact h
theorem i_max2 (h : Q (.int (max n m)) H) : rMax2 [.int n, .int m] H Q := by
  refine ⟨n, m, rfl, ?_⟩
  have e : (if m > n then m else n) = max n m := by
    rw [Int.max_def]
    split <;> split <;> omega
  rw [e]
  exact h
theorem i_min2 (h : Q (.int (min n m)) H) : rMin2 [.int n, .int m] H Q := by
  refine ⟨n, m, rfl, ?_⟩
  have e : (if m < n then m else n) = min n m := by
    rw [Int.min_def]
    split <;> split <;> omega
  rw [e]
  exact h
theorem i_mod (hc : 0 < m) (h : Q (.int (n % m)) H) : uMod (.int n) (.int m) H Q := ⟨n, m, rfl, rfl, hc, h⟩
theorem i_listL (hs : SqL K H p xs) (h : New H fun l => Q (.ref l) (upd H l (.lst xs))) :
    rListOf K [.ref p] H Q := ⟨p, xs, rfl, .inl hs, h⟩
theorem i_listT (hs : SqT K H p xs) (h : New H fun l => Q (.ref l) (upd H l (.lst xs))) :
    rListOf K [.ref p] H Q := ⟨p, xs, rfl, .inr hs, h⟩
theorem pow_go {k : Int} (e : (10 : Int) ^ m.toNat = k) (hm : 0 ≤ m ∧ m ≤ 1000000) (h : Q (.int k) H) :
    rPow (.int 10) (.int m) H Q :=
  ⟨10, m, rfl, rfl, ⟨hm.1, hm.2, by decide⟩, by
    show Q (.int (10 ^ m.toNat)) H
    rw [e]
    exact h⟩
theorem i_pw6 (h : Q (.int 1000000) H) : rPow (.int 10) (.int 6) H Q :=
  pow_go rfl (by decide) h
theorem i_pw16 (h : Q (.int 10000000000000000) H) : rPow (.int 10) (.int 16) H Q :=
  pow_go rfl (by decide) h
theorem i_pw18 (h : Q (.int 1000000000000000000) H) :
    rPow (.int 10) (.int 18) H Q := pow_go rfl (by decide) h
theorem i_pw58 (h : Q (.int 10000000000000000000000000000000000000000000000000000000000) H) :
    rPow (.int 10) (.int 58) H Q := pow_go rfl (by decide) h
theorem i_pw59 (h : Q (.int 100000000000000000000000000000000000000000000000000000000000) H) :
    rPow (.int 10) (.int 59) H Q := pow_go rfl (by decide) h
theorem i_pw60 (h : Q (.int 1000000000000000000000000000000000000000000000000000000000000) H) :
    rPow (.int 10) (.int 60) H Q := pow_go rfl (by decide) h
theorem i_pw61 (h : Q (.int 10000000000000000000000000000000000000000000000000000000000000) H) :
    rPow (.int 10) (.int 61) H Q := pow_go rfl (by decide) h
theorem log_small {j : Int} (h0 : 0 < j) (h : j ≤ 10000000000000000000000000000000000000000000000000000000000000000000000) :
    j.natAbs.log2 < 9000 := by
  have h1 : j.natAbs < 2 ^ 9000 := by
    have h2 : j.natAbs ≤ 10 ^ 70 := by
      have e : ((10 ^ 70 : Nat) : Int) = 10000000000000000000000000000000000000000000000000000000000000000000000 := by rfl
      omega
    exact Nat.lt_of_le_of_lt h2 (by decide +kernel)
  exact (Nat.log2_lt (by omega)).mpr h1
theorem divp_small {i j : Int} (h0 : 0 < j) (h : j.natAbs.log2 < 9000) : CDivP i j := by
  refine ⟨h0, ?_⟩
  have nz : ¬ (j == 0) = true := by
    simpa using (show j ≠ 0 by omega)
  unfold Builtin.divisionGoesByPylong
  simp only [nz]
  have e : ¬ (j.natAbs.log2 / 30 + 1 > 300) := by omega
  first
    | (simp only [e, decide_false, Bool.false_and]; done)
    | (simp [e]; done)
    | (simp; omega)
theorem i_dm (h0 : 0 < m)
    (h1 : m ≤ 10000000000000000000000000000000000000000000000000000000000000000000000)
    (h : New H fun q => Q (.ref q) (upd H q (.tup [.int (n / m), .int (n % m)]))) :
    rDm [.int n, .int m] H Q := ⟨n, m, rfl, divp_small h0 (log_small h0 h1), h⟩
theorem i_div (h0 : 0 < m)
    (h1 : m ≤ 10000000000000000000000000000000000000000000000000000000000000000000000)
    (h : Q (.int (n / m)) H) : uDiv (.int n) (.int m) H Q := ⟨n, m, rfl, rfl, ⟨h0, log_small h0 h1⟩, h⟩
/-- a pot: two numbers from which draws come -/
def PotAt (H : Hp) (p : Addr) : Prop :=
  ∃ x y : Int, H p = some (.lst [.int x, .int y]) ∧ 0 ≤ x ∧ 0 ≤ y ∧ y < 8589934592
theorem PotAt.kp {ws : List Addr} {H1 : Hp} (h : PotAt H p) (k : Kp ws H H1) (hp : p ∉ ws) : PotAt H1 p := by
  obtain ⟨x, y, e, r⟩ := h
  exact ⟨x, y, k.at_ _ _ e hp, r⟩
end
end G
namespace G
open PySem PySem.Spec PyProof.Rows L2
def dty : PyData → String
  | .none => "NoneType"
  | .bool _ => "bool"
  | .int _ => "int"
  | .str _ => "str"
  | .list _ => "list"
  | .tuple _ => "tuple"
  | .dict _ => "dict"
section
variable {K : PySem.W.Frag} {σ : L2.St} {H : Hp} {Q : VK} {n m : Int} {a p : Addr} {xs : List V} {v : V} {d : PyData}
theorem dp_ty (h : Dp K H v d) : TyX K H v (.type (dty d)) := by
  cases h with
  | non => exact .base .non
  | bl b => exact .base (.bl b)
  | int i => exact .base (.int i)
  | str x => exact .base (.str x)
  | lst hs ha =>
    rcases hs with (h | ⟨o, h⟩) | ⟨o, its, k, e, c, r⟩
    · exact .base (.lst h)
    · exact .base (.frz h)
    · exact .kList e c
  | tup hs ha =>
    rcases hs with (h | ⟨o, h⟩) | ⟨o, its, k, e, c, r⟩
    · exact .base (.tup h)
    · exact .fTuple h
    · exact .kTuple e c
theorem i_isD {T : String} {b : Bool} (hd : Dp K H v d) (e : kitB (dty d) T = some b) (h : Q (.bl b) H) :
    rIsi K [v, .ty T] H Q := ⟨v, .ty T, _, _, b, rfl, .ty T, dp_ty hd, kit_ty e, h⟩
theorem i_revL {te : TE} (h : te σ H fun x H1 => ∃ a xs, x = .ref a ∧ SqL K H1 a xs ∧
    New H1 fun p => Q (.ref p) (upd H1 p (.lst xs.reverse))) : tRevL K te σ H Q := h
theorem i_revd {P : Addr → List V → Prop} (hs : SqL K H a xs) (h : P a xs) :
    ∃ b ys, V.ref a = .ref b ∧ SqL K H b ys ∧ P b ys := ⟨a, xs, rfl, hs, h⟩
def rIns : V → List V → Hp → VK → Prop := fun x vs H Q => ∃ (l : Addr) (xs : List V) (i : Int) (y : V),
  x = .ref l ∧ vs = [.int i, y] ∧ H l = some (.lst xs) ∧ xs.length < sizeLine ∧ 0 ≤ i ∧ i < 2 ^ 63 ∧
  Q .non (upd H l (.lst (xs.take i.toNat ++ [y] ++ xs.drop i.toNat)))
theorem m_insert {X : Cx} : MtR X "list.insert" rIns := mt_insert
theorem i_ins0 {y : V} (hs : H p = some (.lst xs)) (hz : xs.length < sizeLine)
    (h : Q .non (upd H p (.lst (y :: xs)))) : rIns (.ref p) [.int 0, y] H Q :=
  ⟨p, xs, 0, y, rfl, rfl, hs, hz, by decide, by decide, h⟩
theorem i_call0 {sp : Sp} {E : XK} {tr : TA} (h : tr σ H fun vs H1 => sp vs H1 Q E) :
    tCall sp [] E tr σ H Q := by
  unfold tCall
  simp only [List.append_nil]
  exact h
def rAllB (K : PySem.W.Frag) : List V → Hp → VK → Prop := rAll K
theorem i_all {bs : List Bool} (hs : SqL K H p (bs.map V.bl)) (h : Q (.bl (bs.all id)) H) :
    rAll K [.ref p] H Q := ⟨p, bs, rfl, hs, h⟩
theorem i_any {bs : List Bool} (hs : SqL K H p (bs.map V.bl)) (h : Q (.bl (bs.any id)) H) :
    rAny K [.ref p] H Q := ⟨p, bs, rfl, hs, h⟩
theorem i_sum {ns : List Int} (hs : SqL K H p (ns.map V.int)) (h : Q (.int ns.sum) H) :
    rSum K [.ref p] H Q := ⟨p, ns, rfl, hs, h⟩
/-- an item by an index that is not written -/
theorem at_in {l : List V} {r : Int} (h0 : 0 ≤ r) (h1 : r < l.length) : ∃ v, atI l r = some v ∧ v ∈ l := by
  obtain ⟨k, rfl⟩ : ∃ k : Nat, r = k := ⟨r.toNat, by omega⟩
  have hl : k < l.length := by omega
  exact ⟨l[k], atI_nat (by simp), List.getElem_mem hl⟩
end
section
variable {K : PySem.W.Frag} {σ : L2.St} {H H1 : Hp} {Q : VK} {a p l : Addr} {xs : List V} {g : TG} {tt : TT} {te : TE} {vs : List Nat} {QB : Bool → Hp → Prop}
/-- a comprehension over x, a list -/
def LcL (K : PySem.W.Frag) (x : V) (g : TG) (tt : TT) (te : TE) (vs : List Nat) (σ : L2.St) (H1 : Hp) (Q : VK) : Prop :=
  ∃ a, x = .ref a ∧ (∃ xs, SqL K H1 a xs) ∧ ∀ D, H1 D = none →
    ∃ W : Nat → Nat → Hp → Prop, (∃ m, W 0 m (upd H1 D (.lst []))) ∧ ∀ i m H, W i m H →
      ((Itl K a).stop i H ∧ Q (.ref D) H) ∨ ((Itl K a).go i H ∧ ∃ Nx : Hp → Prop,
        (∀ H', Nx H' → ∃ m', m' < m ∧ W (i + 1) m' H') ∧
        ∀ x H', (Itl K a).yld i H x H' → g x (wipe σ vs) H' fun σ2 H2 => wipe σ2 vs = wipe σ vs ∧ tt σ2 H2 fun b H3 =>
          if b = true then te σ2 H3 fun y H4 => ∃ acc, H4 D = some (.lst acc) ∧ acc.length < sizeLine ∧
            Nx (upd H4 D (.lst (acc ++ [y]))) else Nx H3)
theorem i_lcL {te' : TE} (h : te' σ H fun x H1 => LcL K x g tt te vs σ H1 Q) :
    tLc (iList K te') g tt te vs σ H Q := h
theorem i_elts (hs : SqL K H a xs) (Pv : Addr → Nat → Hp → Prop)
    (h0 : ∀ D, Fr H D → Pv D 0 (upd H D (.lst [])))
    (hl : ∀ D i H', Fr H D → i ≤ xs.length → Pv D i H' → SqL K H' a xs)
    (st : ∀ D i x H', Fr H D → xs[i]? = some x → Pv D i H' → g x (wipe σ vs) H' fun σ2 H2 =>
      wipe σ2 vs = wipe σ vs ∧ tt σ2 H2 fun b H3 => if b = true then te σ2 H3 fun y H4 =>
        ∃ acc, H4 D = some (.lst acc) ∧ acc.length < sizeLine ∧ Pv D (i + 1) (upd H4 D (.lst (acc ++ [y])))
        else Pv D (i + 1) H3)
    (hd : ∀ D H', Fr H D → Pv D xs.length H' → Q (.ref D) H') : LcL K (.ref a) g tt te vs σ H Q := by
  refine ⟨a, rfl, ⟨_, hs⟩, fun D hD => ?_⟩
  exact lc_list (K := K) (a := a) (xs := xs) (Pv D) (h0 D ⟨hD⟩) (fun i H' => hl D i H' ⟨hD⟩)
    (fun i x H' => st D i x H' ⟨hD⟩) (fun H' => hd D H' ⟨hD⟩)
def LcR (ws : List V) (g : TG) (tt : TT) (te : TE) (vs : List Nat) (σ : L2.St) (H1 : Hp) (Q : VK) : Prop :=
  ∃ j : Int, ws = [.int j] ∧ -(2 ^ 62) ≤ j ∧ j < 2 ^ 62 ∧ ∀ D, H1 D = none →
    ∃ W : Nat → Nat → Hp → Prop, (∃ m, W 0 m (upd H1 D (.lst []))) ∧ ∀ i m H, W i m H →
      ((Itr 0 j.toNat).stop i H ∧ Q (.ref D) H) ∨ ((Itr 0 j.toNat).go i H ∧ ∃ Nx : Hp → Prop,
        (∀ H', Nx H' → ∃ m', m' < m ∧ W (i + 1) m' H') ∧
        ∀ x H', (Itr 0 j.toNat).yld i H x H' → g x (wipe σ vs) H' fun σ2 H2 => wipe σ2 vs = wipe σ vs ∧ tt σ2 H2 fun b H3 =>
          if b = true then te σ2 H3 fun y H4 => ∃ acc, H4 D = some (.lst acc) ∧ acc.length < sizeLine ∧
            Nx (upd H4 D (.lst (acc ++ [y]))) else Nx H3)
theorem i_lcR {ta : TA} (h : ta σ H fun ws H1 => LcR ws g tt te vs σ H1 Q) :
    tLc (iRng1 ta) g tt te vs σ H Q := h
theorem i_reps {n : Int} (b1 : 0 ≤ n) (b2 : n < 2 ^ 62) (Pv : Addr → Nat → Hp → Prop)
    (h0 : ∀ D, Fr H D → Pv D 0 (upd H D (.lst [])))
    (st : ∀ D (i : Nat) H', Fr H D → (i : Int) < n → Pv D i H' → g (.int i) (wipe σ vs) H' fun σ2 H2 =>
      wipe σ2 vs = wipe σ vs ∧ tt σ2 H2 fun b H3 => if b = true then te σ2 H3 fun y H4 =>
        ∃ acc, H4 D = some (.lst acc) ∧ acc.length < sizeLine ∧ Pv D (i + 1) (upd H4 D (.lst (acc ++ [y])))
        else Pv D (i + 1) H3)
    (hd : ∀ D H', Fr H D → Pv D n.toNat H' → Q (.ref D) H') : LcR [.int n] g tt te vs σ H Q := by
  refine ⟨n, rfl, by omega, b2, fun D hD => ?_⟩
  refine lc_range (lo := 0) (n := n.toNat) (Pv D) (h0 D ⟨hD⟩) (fun i H' hi q => ?_) (fun H' => hd D H' ⟨hD⟩)
  have e : V.int (0 + (i : Int)) = V.int i := by rw [Int.zero_add]
  rw [e]
  exact st D i H' ⟨hD⟩ (by omega) q
theorem i_wipe {σ2 : L2.St} {P : Prop} (e : wipe σ2 vs = wipe σ vs) (h : P) : wipe σ2 vs = wipe σ vs ∧ P := ⟨e, h⟩
theorem i_yes (h : QB true H) : tYes σ H QB := h
theorem i_acc {D : Addr} {y : V} {P : Hp → Prop} {acc : List V} (h1 : H D = some (.lst acc)) (h2 : acc.length < sizeLine)
    (h : P (upd H D (.lst (acc ++ [y])))) : ∃ acc, H D = some (.lst acc) ∧ acc.length < sizeLine ∧ P (upd H D (.lst (acc ++ [y]))) :=
  ⟨acc, h1, h2, h⟩
end
end G
namespace G
open PySem PySem.Spec PyProof.Rows L2
section
variable {K : PySem.W.Frag} {H H1 : Hp} {a p l q : Addr} {ws : List Addr} {o u : HO} {ds : List PyData}
theorem kp_at (k : Kp ws H H1) (h : H a = some u) (n : a ∉ ws) : H1 a = some u := k.at_ a u h n
theorem not_nil {α : Type} {a : α} : a ∉ ([] : List α) := List.not_mem_nil
theorem not_one {a b : Addr} (h : a ≠ b) : a ∉ [b] := fun z => h (List.mem_singleton.mp z)
theorem not_two {a b c : Addr} (h : a ≠ b) (h2 : a ≠ c) : a ∉ [b, c] := fun z => by
  rcases List.mem_cons.mp z with z | z
  · exact h z
  · exact h2 (List.mem_singleton.mp z)
theorem pot_upd (h : PotAt H p) (n : p ≠ q) : PotAt (upd H q o) p := by
  obtain ⟨x, y, e, r⟩ := h
  exact ⟨x, y, by rw [upd_ne n]; exact e, r⟩
theorem PotAt.ne {x : Addr} (h : PotAt H p) (f : Fr H x) : p ≠ x := by
  have hx := f.e
  obtain ⟨_, _, e, _⟩ := h
  exact ne_of_none e hx
theorem pot_ne {x : Addr} (hx : Fr H x) (h : PotAt H p) : p ≠ x := h.ne hx
theorem LD.ne {x : Addr} (h : LD K H l ds) (f : Fr H x) : l ≠ x := by
  have hx := f.e
  obtain ⟨_, e, _⟩ := h
  exact ne_of_none e hx
theorem ld_ne {x : Addr} (f : Fr H x) (h : LD K H l ds) : l ≠ x := h.ne f
theorem ld_upd (h : LD K H l ds) (hi : imms ds = true) (hq : Fr H q) : LD K (upd H q o) l ds := by
  have k : Kp ([] : List Addr) H (upd H q o) := Kp.new hq
  exact h.kp k hi not_nil
theorem ld_upl {ys : List V} (h : LD K H l ds) (hi : imms ds = true) (hq : H q = some (.lst ys))
    (n : l ≠ q) : LD K (upd H q o) l ds := by
  have k : Kp [q] H (upd H q o) := Kp.mut hq (fun z => z) (List.mem_singleton.mpr rfl)
  exact h.kp k hi (not_one n)
theorem sqL_new {xs : List V} (h : SqL K H a xs) (f : Fr H q) : SqL K (upd H q o) a xs :=
  (Kp.new (ws := []) f).seqL not_nil h
theorem sqL_kp {xs : List V} (k : Kp ws H H1) (h : SqL K H a xs) (n : a ∉ ws) : SqL K H1 a xs := k.seqL n h
theorem at_zero {x : V} {xs : List V} : atI (x :: xs) 0 = some x := atI_nat (j := 0) rfl
theorem ix_zero (n : Nat) : ixN (n + 1) 0 = some 0 := by
  unfold ixN
  rw [if_pos (by decide), if_pos (by omega)]
  rfl
theorem dpa_rev : ∀ {ds : List PyData} {vs : List V}, DpAll K H vs ds → DpAll K H vs.reverse ds.reverse
  | [], _, h => by cases h; exact .nil
  | _ :: _, _, h => by
    cases h with
    | cons h1 h2 =>
      rw [List.reverse_cons, List.reverse_cons]
      exact dpa_app (dpa_rev h2) (dpa_one h1)
/-- something is put behind -/
theorem ld_app {y : V} {d : PyData} {vs : List V} (h : DpAll K H vs ds) (e : H l = some (.lst vs))
    (hi : imms ds = true) (hd : Dp K H y d) (hj : imm d = true) : LD K (upd H l (.lst (vs ++ [y]))) l (ds ++ [d]) := by
  have k : Kp [l] H (upd H l (.lst (vs ++ [y]))) := Kp.mut e (fun z => z) (List.mem_singleton.mpr rfl)
  exact ⟨_, upd_same, dpa_app (dpa_imm k _ _ hi h) (dpa_one (dp_imm k _ _ hj hd))⟩
end
end G

namespace G
open PySem PySem.Spec PyProof.Rows L2
/-! the same rules, the written part named -/
section
variable {X : Cx} {K : PySem.W.Frag} {e : Expr} {es : List Expr} {te : TE} {t : TGs} {f : Str} {pos : Pos} {tg : Expr}
theorem k_add (h : X.K = K) : OpR X (binaryOp .Add) (uAdd K) := h ▸ o_add
theorem k_eq (h : X.K = K) (hu : X.A.units + 64 < cLine) : OpR X (compareOp .Eq) (uEq K) := h ▸ o_eq hu
theorem k_ne (h : X.K = K) (hu : X.A.units + 64 < cLine) : OpR X (compareOp .NotEq) (uNe K) := h ▸ o_ne hu
theorem k_ix (h : X.K = K) : IxR X (uIx K) := h ▸ o_ix
theorem k_len (h : X.K = K) : CallR X (.builtin "len") (uLen K) := h ▸ c_len
theorem k_list (h : X.K = K) : CallR X (.type "list") (rListOf K) := h ▸ c_list
theorem k_repr (h : X.K = K) (hg : X.A.guards = some []) (hu : X.A.units + 64 < cLine) :
    CallR X (.builtin "repr") (rRepr K) := h ▸ call_repr hg hu
theorem k_all (h : X.K = K) (hc : X.calm = true) : CallR X (.builtin "all") (rAll K) := h ▸ cr_all hc
theorem k_any (h : X.K = K) (hc : X.calm = true) : CallR X (.builtin "any") (rAny K) := h ▸ cr_any hc
theorem k_sum (h : X.K = K) (hc : X.calm = true) : CallR X (.builtin "sum") (rSum K) := h ▸ cr_sum hc
theorem k_isi (h : X.K = K) : CallR X (.builtin "isinstance") (rIsi K) := h ▸ call_isi
theorem k_sl (h : X.K = K) : SlR X (rSlL K) := h ▸ sl_list
theorem k_slT (h : X.K = K) : SlR X (rSlT K) := h ▸ sl_tup
theorem k_in (h : X.K = K) : OpR X (compareOp .In) (rIn K false) := h ▸ op_in_seq
theorem k_nin (h : X.K = K) : OpR X (compareOp .NotIn) (rIn K true) := h ▸ op_notIn_seq
theorem k_fld (h : X.K = K) (he : PE X e te) (hb : attributeBase e f X.env (eval e X.env) = eval e X.env) :
    PE X (.Attribute e f pos) (tFld K te f) := h ▸ pe_fld he hb
theorem k_plist (h : X.K = K) (he : PE X e te) : PI X tg e (iList K te) := h ▸ pi_list he
theorem k_ptup (h : X.K = K) (he : PE X e te) : PI X tg e (iTup K te) := h ▸ pi_tup he
theorem k_rev {k : Nat} {p1 p2 p3 : Pos} (h : X.K = K) (he : PE X e te) :
    PE X (.Subscript e (.Slice none none (some (.UnaryOp .USub (.Constant (.int 1) k p1) p2)) p3) pos) (tRevL K te) :=
  h ▸ pe_revL he
theorem k_gtup {k : Nat} (n : Nat) (h : X.K = K) (hc : X.calm = true) (hp : PGs X es t)
    (hn : (assignEach es X.env).length = n := by rfl)
    (hst : (assignEach es X.env).findIdx? (·.1) = none := by rfl) : PG X (.Tuple es k pos) (gTup K n t) :=
  h ▸ pg_tup hc hp hn hst
end
end G
namespace G
open PySem PySem.Spec PyProof.Rows L2
/-! what is tracked; what is fixed -/
structure Tr (H : Hp) (a : Addr) : Prop where
  ex : ∃ o, H a = some o
structure Fx (H H1 : Hp) : Prop where
  fx : ∀ a u, H a = some u → Fix u → H1 a = some u
section
variable {K : PySem.W.Frag} {H H0 H1 : Hp} {Q : VK} {a b p l q : Addr} {ws : List Addr} {o u : HO} {ds : List PyData} {xs : List V} {n : Int} {v : V}
theorem tr_of (h : H a = some o) : Tr H a := ⟨o, h⟩
theorem tr_same : Tr (upd H p o) p := ⟨o, upd_same⟩
theorem tr_upd (h : Tr H a) : Tr (upd H p o) a := by
  by_cases e : a = p
  · rw [e]
    exact tr_same
  · obtain ⟨u, h⟩ := h.ex
    exact ⟨u, by rw [upd_ne e]; exact h⟩
theorem tr_kp (k : Kp ws H H1) (h : Tr H a) : Tr H1 a := by
  obtain ⟨u, h⟩ := h.ex
  obtain ⟨v, e⟩ := k.dom _ _ h
  exact ⟨v, e⟩
theorem tr_ld (h : LD K H a ds) : Tr H a := by
  obtain ⟨vs, e, _⟩ := h
  exact ⟨_, e⟩
theorem tr_pot (h : PotAt H a) : Tr H a := by
  obtain ⟨x, y, e, _⟩ := h
  exact ⟨_, e⟩
theorem fr_tr (h : Tr H a) (f : Fr H b) : a ≠ b := by
  obtain ⟨u, e⟩ := h.ex
  exact fr_ne e f
theorem fx_refl : Fx H H := ⟨fun _ _ h _ => h⟩
theorem fx_new (h : Fx H0 H) (f : Fr H p) : Fx H0 (upd H p o) := ⟨fun a u e z => by
  have e2 := h.fx a u e z
  rw [upd_ne (fr_ne e2 f)]
  exact e2⟩
theorem fx_mut (h : Fx H0 H) (f : H p = some u) (nf : ¬ Fix u) : Fx H0 (upd H p o) := ⟨fun a v e z => by
  have e2 := h.fx a v e z
  rw [upd_ne]
  · exact e2
  · intro c
    subst c
    rw [f] at e2
    cases e2
    exact nf z⟩
theorem fx_kp (k : Kp ws H H1) (h : Fx H0 H) : Fx H0 H1 := ⟨fun a u e z => k.fix a u (h.fx a u e z) z⟩
theorem Fx.seqT (k : Fx H H1) (h : SqT K H l xs) : SqT K H1 l xs := by
  rcases h with (h | ⟨o, h⟩) | h
  · exact .inl (.inl (k.fx _ _ h trivial))
  · exact .inl (.inr ⟨o, k.fx _ _ h trivial⟩)
  · exact .inr h
mutual
theorem Fx.dp (k : Fx H H1) : ∀ (d : PyData) (v : V), imm d = true → Dp K H v d → Dp K H1 v d
  | .none, _, _, h => by cases h; exact .non
  | .bool b, _, _, h => by cases h; exact .bl b
  | .int i, _, _, h => by cases h; exact .int i
  | .str x, _, _, h => by cases h; exact .str x
  | .tuple ds, _, hi, h => by
    cases h with
    | tup hs ha => exact .tup (k.seqT hs) (Fx.dpa k ds _ (by simpa only [imm] using hi) ha)
  | .list _, _, hi, _ => by simp only [imm] at hi; cases hi
  | .dict _, _, hi, _ => by simp only [imm] at hi; cases hi
theorem Fx.dpa (k : Fx H H1) : ∀ (ds : List PyData) (vs : List V), imms ds = true →
    DpAll K H vs ds → DpAll K H1 vs ds
  | [], _, _, h => by cases h; exact .nil
  | d :: ds, _, hi, h => by
    simp only [imms, Bool.and_eq_true] at hi
    cases h with
    | cons h1 h2 => exact .cons (Fx.dp k d _ hi.1 h1) (Fx.dpa k ds _ hi.2 h2)
end
/-- an item of an object -/
def ixO : HO → Int → V → Prop
  | .lst xs, n, v => atI xs n = some v
  | .tup xs, n, v => atI xs n = some v
  | _, _, _ => False
theorem i_ixO (h : H p = some o) (hv : ixO o n v) (q : Q v H) : uIx K (.ref p) (.int n) H Q := by
  cases o with
  | lst xs => exact i_ixL (SqL.of h) hv q
  | tup xs => exact i_ixT (SqT.of h) hv q
  | _ => exact hv.elim
theorem i_ixS (h0 : SqT K H0 p xs) (k : Fx H0 H) (hv : atI xs n = some v) (q : Q v H) :
    uIx K (.ref p) (.int n) H Q := i_ixT (k.seqT h0) hv q
def lenO : HO → Int → Prop
  | .lst xs, n => n = xs.length
  | .tup xs, n => n = xs.length
  | _, _ => False
theorem i_lenO (h : H p = some o) (hv : lenO o n) (q : Q (.int n) H) : uLen K [.ref p] H Q := by
  cases o with
  | lst xs =>
    have e : n = xs.length := hv
    subst e
    exact i_lenL (SqL.of h) q
  | tup xs =>
    have e : n = xs.length := hv
    subst e
    exact i_lenT (SqT.of h) q
  | _ => exact hv.elim
end
end G
namespace G
open PySem PySem.Spec PyProof.Rows L2
section
variable {K : PySem.W.Frag} {H : Hp} {Q : VK} {x y : V} {d : PyData}
theorem ne_same (hx : Dp K H x d) (hy : Dp K H y d) (sh : SeqAt.shaped d = true) (h : Q (.bl false) H) :
    uNe K x y H Q := by
  refine i_neD hx hy sh sh ?_
  rw [SeqAt.eqv_refl d (SeqAt.canLay_of_shaped sh)]
  exact h
theorem eq_same (hx : Dp K H x d) (hy : Dp K H y d) (sh : SeqAt.shaped d = true) (h : Q (.bl true) H) :
    uEq K x y H Q := by
  refine i_eqD hx hy sh sh ?_
  rw [SeqAt.eqv_refl d (SeqAt.canLay_of_shaped sh)]
  exact h
/-- a number that may be shown -/
def okI (i : Int) : Prop := i.natAbs.log2 < 1920
theorem okI_of {i : Int} (h0 : -100000000000000000000000000000000000000000000000000000000000000000000000 ≤ i)
    (h1 : i ≤ 100000000000000000000000000000000000000000000000000000000000000000000000) : okI i := by
  unfold okI
  have h2 : i.natAbs ≤ 10 ^ 71 := by
    have e : ((10 ^ 71 : Nat) : Int) = 100000000000000000000000000000000000000000000000000000000000000000000000 := by rfl
    omega
  by_cases z : i.natAbs = 0
  · rw [z]
    decide
  · exact (Nat.log2_lt z).mpr (Nat.lt_of_le_of_lt h2 (by decide +kernel))
theorem shws_pairs : ∀ l : List (Int × Int), (∀ q ∈ l, okI q.1 ∧ okI q.2) → shws (l.map d2) = true
  | [], _ => rfl
  | q :: l, h => by
    have a := h q List.mem_cons_self
    have b := shws_pairs l fun z hz => h z (List.mem_cons_of_mem _ hz)
    simp only [List.map_cons, shws, shw, b, Bool.and_true, Bool.and_eq_true, decide_eq_true_eq]
    exact a
theorem cws_pairs : ∀ l : List (Int × Int), cws (l.map d2) = 3868 * l.length
  | [] => rfl
  | q :: l => by
    simp only [List.map_cons, cws, cw, cws_pairs l, List.length_cons]
    omega
theorem depth_list (l : List (Int × Int)) : (PyData.list (l.map d2)).depth ≤ 60 := by
  simp only [PyData.depth]
  have q := depth_pairs l
  omega
theorem repr_pairs {l : List (Int × Int)} (hx : Dp K H x (.list (l.map d2))) (h : ∀ q ∈ l, okI q.1 ∧ okI q.2)
    (hl : l.length ≤ 4000) (q : Q (.str (PyData.list (l.map d2)).shown) H) : rRepr K [x] H Q := by
  refine i_repr hx ?_ (depth_list l) ?_ q
  · simp only [shw]
    exact shws_pairs l h
  · have e : cw (.list (l.map d2)) = 3868 * l.length + 2 := by simp only [cw, cws_pairs]
    rw [e]
    exact Nat.le_trans (show 3868 * l.length + 2 ≤ 15472002 by omega) (by decide)
end
end G
namespace G
open PySem PySem.Spec PyProof.Rows L2
/-! methods, new instances, keywords -/
section
variable {X : Cx} {k n : Nat} {f C : Addr} {fd : FuncData} {ps ks : List Str} {sp : Sp}
variable {dvs : List V} {ds : List Value} {E : XK} {x m : Str} {p pos apos : Pos} {e o : Expr}
variable {es : List Expr} {kws : List Keyword} {ta : TE} {t tk : TA} {pins : List (Addr × Obj)} {σ : L2.St} {H : Hp}
variable {s s' : Shared} {Q : VK} {g : List Value → List Value → List Value} {gV : List V → List V → List V}
/-- defaults of which only the values are known -/
def BindsD (K : PySem.W.Frag) (fd : FuncData) (ps : List Str) (dvs : List V) : Prop :=
  ∃ ds, Vals dvs ds ∧ Binds K fd ps ds
def KBnD (K : PySem.W.Frag) (fd : FuncData) (ps : List Str) (n : Nat) (ks : List Str)
    (gV : List V → List V → List V) : Prop := ∃ g, KBn K fd ps n ks g gV
theorem BindsD.plain {K : PySem.W.Frag} (h : Binds K fd ps []) : BindsD K fd ps [] := ⟨[], .nil, h⟩
theorem d1 (F : Fg X k f fd ps sp) (z : RoomG k X.A) (hg : Gl X x) (hm : X.mg x = some (.ref f))
    (hk : PySem.W.keepIn X.K (.ref f) = true) (hb : BindsD X.K fd ps dvs)
    (hx : Ps X E) (ha : PA X (e :: es) t)
    (hdb : (x == ("__debug__" : Str)) = false := by decide)
    (he : starEach (e :: es) X.env = (false, eval e X.env) :: starEach es X.env := by rfl)
    (hpl : (backTo pos (starEach es X.env)).any (·.1) = false := by rfl) :
    PE X (.Call (.Name x p) (e :: es) [] pos) (tCall sp dvs E t) := by
  obtain ⟨ds, hd, hb⟩ := hb
  exact c1 F z hg hm hk hb hd hx ha hdb he hpl
theorem dm {pl : Sem Bool} (c : Cls X.K C) (hm : Meth X.K C m f)
    (F : Fg X k f fd ps sp) (z : RoomG k X.A) (hb : BindsD X.K fd ps dvs)
    (hx : Ps X E) (he : PE X o ta) (ha : PA X (e :: es) t)
    (hst : starEach (e :: es) X.env = (false, eval e X.env) :: starEach es X.env := by rfl)
    (hpl : (backTo pos (starEach es X.env)).any (·.1) = false := by rfl)
    (ht : eval (.Call (.Attribute o m apos) (e :: es) [] pos) X.env = (do
      let y ← eval o X.env
      standAt apos.atName
      let (g, a) ← holding [y] (getMethod y m pl)
      callWith pos g a (backTo pos (starEach (e :: es) X.env))
        (backToKw pos (keywordEach [] X.env))) := by rfl) :
    PE X (.Call (.Attribute o m apos) (e :: es) [] pos) (tMeth C m sp dvs E ta t) := by
  obtain ⟨ds, hd, hb⟩ := hb
  exact cm he c hm F z hb hd hx ha hst hpl ht
theorem dm0 {pl : Sem Bool} (c : Cls X.K C) (hm : Meth X.K C m f)
    (F : Fg X k f fd ps sp) (z : RoomG k X.A) (hb : BindsD X.K fd ps dvs)
    (hx : Ps X E) (he : PE X o ta)
    (ht : eval (.Call (.Attribute o m apos) [] [] pos) X.env = (do
      let y ← eval o X.env
      standAt apos.atName
      let (g, a) ← holding [y] (getMethod y m pl)
      callWith pos g a (backTo pos (starEach [] X.env))
        (backToKw pos (keywordEach [] X.env))) := by rfl) :
    PE X (.Call (.Attribute o m apos) [] [] pos) (tMeth C m sp dvs E ta tNil) := by
  obtain ⟨ds, hd, hb⟩ := hb
  exact cm0 he c hm F z hb hd hx ht
/-- a call of f with positional values and keywords -/
theorem runK {us ws : List Value} {vs zs : List V} (F : Fg X k f fd ps sp) (z : RoomG k X.A)
    (hb : KBn X.K fd ps n ks g gV) (hx : Ps X E) (I : Inv X pins σ H s) (rv : Vals vs us) (rz : Vals zs ws)
    (l1 : vs.length = n) (l2 : zs.length = ks.length) (h : sp (gV vs zs) H Q E) :
    wpAny (model X.prog X.w) X.A (call (.ref f) us (ks.zip ws)) (EP X pins σ Q) X.xe s := by
  have b := hb.to s us ws I.kIn (rv.length.symm.trans l1) (rz.length.symm.trans l2)
  refine wpAny_call (codeAny_mono (runG F z b hx I (hb.rel rv rz) h) ?_)
  intro r s' q
  match r, q with
  | .error e, q => exact q
  | .ok (.ret u), q => exact q
  | .ok .next, q => exact q
  | .ok .brk, q => exact q
  | .ok .cont, q => exact q
def tKw (n m : Nat) (sp : Sp) (gV : List V → List V → List V) (E : XK) (t tk : TA) : TE := fun σ H Q =>
  t σ H fun vs H1 => tk σ H1 fun zs H2 => vs.length = n ∧ zs.length = m ∧ sp (gV vs zs) H2 Q E
def tMw (C : Addr) (nm : Str) (n m : Nat) (sp : Sp) (gV : List V → List V → List V) (E : XK) (ta : TE) (t tk : TA) : TE :=
  fun σ H Q => ta σ H fun x H1 => ∃ a dx fs, x = .ref a ∧ H1 a = some (.ins C dx fs) ∧ fs.lookup nm = none ∧
    t σ H1 fun vs H2 => tk σ H2 fun zs H3 => vs.length = n ∧ zs.length = m ∧ sp (gV (x :: vs) zs) H3 Q E
theorem kc (F : Fg X k f fd ps sp) (z : RoomG k X.A) (hg : Gl X x) (hm : X.mg x = some (.ref f))
    (hk : PySem.W.keepIn X.K (.ref f) = true) (hb : KBnD X.K fd ps n ks gV) (hx : Ps X E)
    (ha : PA X (e :: es) t) (hkw : PK X kws tk)
    (hall : (backToKw pos (keywordEach kws X.env)).all (·.1.isSome) = true := by rfl)
    (hks : (backToKw pos (keywordEach kws X.env)).filterMap (·.1) = ks := by rfl)
    (hdb : (x == ("__debug__" : Str)) = false := by decide)
    (he : starEach (e :: es) X.env = (false, eval e X.env) :: starEach es X.env := by rfl)
    (hpl : ((backTo pos (starEach (e :: es) X.env)).any (·.1) ||
      (backToKw pos (keywordEach kws X.env)).any (·.1.isNone)) = false := by rfl) :
    PE X (.Call (.Name x p) (e :: es) kws pos) (tKw n ks.length sp gV E t tk) := by
  obtain ⟨g, hb⟩ := hb
  constructor
  intro pins s σ H Q I h
  refine wpAny_Call_Name_kw (ld_glob I hg hm ?_ hdb)
  refine PySem.W.callWith_KW (h₀ := X.base) I.ok.mod.kin hk hall ?_ hpl he
  refine thn (ha.run pos pins s σ H _ I h) ?_
  intro us s1 y
  obtain ⟨vs, H1, I1, r, q⟩ := y
  refine thn (hkw.run pos pins s1 σ H1 _ I1 q) ?_
  intro ws s2 y
  obtain ⟨zs, H2, I2, rz, l1, l2, q2⟩ := y
  refine ⟨I2.kIn, ?_⟩
  rw [hks]
  exact runK F z hb hx I2 r rz l1 l2 q2
theorem kc0 (F : Fg X k f fd ps sp) (z : RoomG k X.A) (hg : Gl X x) (hm : X.mg x = some (.ref f))
    (hk : PySem.W.keepIn X.K (.ref f) = true) (hb : KBnD X.K fd ps 0 ks gV) (hx : Ps X E)
    (hkw : PK X kws tk)
    (hall : (backToKw pos (keywordEach kws X.env)).all (·.1.isSome) = true := by rfl)
    (hks : (backToKw pos (keywordEach kws X.env)).filterMap (·.1) = ks := by rfl)
    (hdb : (x == ("__debug__" : Str)) = false := by decide)
    (hpl : ((backTo pos (starEach [] X.env)).any (·.1) ||
      (backToKw pos (keywordEach kws X.env)).any (·.1.isNone)) = false := by rfl) :
    PE X (.Call (.Name x p) [] kws pos) (tKw 0 ks.length sp gV E tNil tk) := by
  obtain ⟨g, hb⟩ := hb
  constructor
  intro pins s σ H Q I h
  refine wpAny_Call_Name_kw (ld_glob I hg hm ?_ hdb)
  refine PySem.W.callWith_KW0 (h₀ := X.base) I.ok.mod.kin hk hall ?_ hpl
  refine thn (hkw.run pos pins s σ H _ I h) ?_
  intro ws s2 y
  obtain ⟨zs, H2, I2, rz, l1, l2, q2⟩ := y
  refine ⟨I2.kIn, ?_⟩
  rw [hks]
  exact runK (us := []) (vs := []) F z hb hx I2 .nil rz l1 l2 q2
theorem km {pl : Sem Bool} (c : Cls X.K C) (hm : Meth X.K C m f)
    (F : Fg X k f fd ps sp) (z : RoomG k X.A) (hb : KBnD X.K fd ps (n + 1) ks gV)
    (hx : Ps X E) (he : PE X o ta) (ha : PA X (e :: es) t) (hkw : PK X kws tk)
    (hall : (backToKw pos (keywordEach kws X.env)).all (·.1.isSome) = true := by rfl)
    (hks : (backToKw pos (keywordEach kws X.env)).filterMap (·.1) = ks := by rfl)
    (hst : starEach (e :: es) X.env = (false, eval e X.env) :: starEach es X.env := by rfl)
    (hpl : ((backTo pos (starEach (e :: es) X.env)).any (·.1) ||
      (backToKw pos (keywordEach kws X.env)).any (·.1.isNone)) = false := by rfl)
    (ht : eval (.Call (.Attribute o m apos) (e :: es) kws pos) X.env = (do
      let y ← eval o X.env
      standAt apos.atName
      let (g, a) ← holding [y] (getMethod y m pl)
      callWith pos g a (backTo pos (starEach (e :: es) X.env))
        (backToKw pos (keywordEach kws X.env))) := by rfl) :
    PE X (.Call (.Attribute o m apos) (e :: es) kws pos) (tMw C m n ks.length sp gV E ta t tk) := by
  obtain ⟨g, hb⟩ := hb
  constructor
  intro pins s σ H Q I h
  refine PySem.W.methodCall_KW (pl := pl) (thn (he.run pins s σ H _ I h) ?_) ht
  intro u s1 y
  obtain ⟨v, H1, I1, rx, a, dx, fs, ex, ea, l, q⟩ := y
  subst ex
  obtain rfl : u = Value.ref a := rx
  refine getmeth_ok I1 ea c hm l ?_
  refine PySem.W.callWith_KW (first := [.ref a]) (h₀ := X.base) I.ok.mod.kin hm.kp hall ?_ hpl hst
  refine thn (ha.run pos pins s1 σ H1 _ I1 q) ?_
  intro us s2 y
  obtain ⟨vs, H2, I2, r, q2⟩ := y
  refine thn (hkw.run pos pins s2 σ H2 _ I2 q2) ?_
  intro ws s3 y
  obtain ⟨zs, H3, I3, rz, l1, l2, q3⟩ := y
  refine ⟨I3.kIn, ?_⟩
  rw [hks]
  exact runK (us := .ref a :: us) (vs := .ref a :: vs) F z hb hx I3 (.cons rfl r) rz (by rw [List.length_cons, l1]) l2 q3
theorem km0 {pl : Sem Bool} (c : Cls X.K C) (hm : Meth X.K C m f)
    (F : Fg X k f fd ps sp) (z : RoomG k X.A) (hb : KBnD X.K fd ps 1 ks gV)
    (hx : Ps X E) (he : PE X o ta) (hkw : PK X kws tk)
    (hall : (backToKw pos (keywordEach kws X.env)).all (·.1.isSome) = true := by rfl)
    (hks : (backToKw pos (keywordEach kws X.env)).filterMap (·.1) = ks := by rfl)
    (hpl : ((backTo pos (starEach [] X.env)).any (·.1) ||
      (backToKw pos (keywordEach kws X.env)).any (·.1.isNone)) = false := by rfl)
    (ht : eval (.Call (.Attribute o m apos) [] kws pos) X.env = (do
      let y ← eval o X.env
      standAt apos.atName
      let (g, a) ← holding [y] (getMethod y m pl)
      callWith pos g a (backTo pos (starEach [] X.env))
        (backToKw pos (keywordEach kws X.env))) := by rfl) :
    PE X (.Call (.Attribute o m apos) [] kws pos) (tMw C m 0 ks.length sp gV E ta tNil tk) := by
  obtain ⟨g, hb⟩ := hb
  constructor
  intro pins s σ H Q I h
  refine PySem.W.methodCall_KW (pl := pl) (thn (he.run pins s σ H _ I h) ?_) ht
  intro u s1 y
  obtain ⟨v, H1, I1, rx, a, dx, fs, ex, ea, l, q⟩ := y
  subst ex
  obtain rfl : u = Value.ref a := rx
  refine getmeth_ok I1 ea c hm l ?_
  refine PySem.W.callWith_KW0 (first := [.ref a]) (h₀ := X.base) I.ok.mod.kin hm.kp hall ?_ hpl
  refine thn (hkw.run pos pins s1 σ H1 _ I1 q) ?_
  intro ws s3 y
  obtain ⟨zs, H3, I3, rz, l1, l2, q3⟩ := y
  refine ⟨I3.kIn, ?_⟩
  rw [hks]
  exact runK (us := [.ref a]) (vs := [.ref a]) F z hb hx I3 (.cons rfl .nil) rz (by rw [List.length_singleton]) l2 q3
/-- a new instance, then its __init__ -/
def Made (C : Addr) (sp : Sp) (E : XK) (H : Hp) (Q : VK) (vs : Addr → List V) : Prop :=
  ∀ x dx, H x = none → H dx = none → dx ≠ x →
    sp (vs x) (upd (upd H dx (.own x)) x (.ins C dx [])) (fun v H2 => v = .non ∧ Q (.ref x) H2) E
theorem runM {vs : Addr → List V} (M : Mk X.K C f) (F : Fg X k f fd ps sp)
    (z : RoomG (k + 1) X.A) (hx : Ps X E) (I : Inv X pins σ H s) {us0 : List Value} {kw : List (Str × Value)}
    {us : Addr → List Value} (hb : ∀ (s : Shared) (x : Addr), X.K.In s.heap → BindsTo s fd ⟨.ref x :: us0, kw⟩ (ps.zip (us x)))
    (h : Made C sp E H Q vs)
    (rv : ∀ x, Vals (vs x) (us x)) :
    wpAny (model X.prog X.w) X.A (call (.ref C) us0 kw) (EP X pins σ Q) X.xe s := by
  have hq := h (s.heap.objs.size + 1) s.heap.objs.size (I.hok.fresh (Nat.le_succ _)) (I.hok.fresh (Nat.le_refl _))
    (Nat.ne_of_lt (Nat.lt_succ_self _))
  have I2 := Inv.made (C := C) I
  refine wpAny_call (make_map (f := f) I.kIn M.makes M.init (beq_iff_eq.mp M.fn) (codeAny_mono
    (F.run _ X.stack _ _ ⟨.ref (s.heap.objs.size + 1) :: us0, kw⟩ _ _ _ E (z.make C us0 kw)
      (I2.env0.make C us0 kw) (hb _ _ I2.kIn) (rv _) hq) ?_))
  intro r s' q
  match r, q with
  | .error e, q => exact hx pins σ _ _ e s' I2 q
  | .ok (.ret u), q =>
    obtain ⟨v, H', I3, rv, ev, q3⟩ := I2.after q
    subst ev
    exact ⟨rv, ⟨V.ref (s.heap.objs.size + 1), H', I3, rfl, q3⟩⟩
  | .ok .next, q => exact False.elim q
  | .ok .brk, q => exact False.elim q
  | .ok .cont, q => exact False.elim q
def tMk (C : Addr) (sp : Sp) (dvs : List V) (E : XK) (t : TA) : TE := fun σ H Q => t σ H fun vs H1 =>
  Made C sp E H1 Q fun x => .ref x :: (vs ++ dvs)
def tMkK (C : Addr) (n m : Nat) (sp : Sp) (gV : List V → List V → List V) (E : XK) (t tk : TA) : TE := fun σ H Q =>
  t σ H fun vs H1 => tk σ H1 fun zs H2 => vs.length = n ∧ zs.length = m ∧ Made C sp E H2 Q fun x => gV (.ref x :: vs) zs
theorem made_len {vs : Addr → List V} (F : Fg X k f fd ps sp) (I : Inv X pins σ H s) (h : Made C sp E H Q vs) :
    ∃ x, (vs x).length = ps.length := by
  have hq := h (s.heap.objs.size + 1) s.heap.objs.size (I.hok.fresh (Nat.le_succ _)) (I.hok.fresh (Nat.le_refl _))
    (Nat.ne_of_lt (Nat.lt_succ_self _))
  exact ⟨_, F.len _ _ _ _ hq⟩
theorem mk1 (M : Mk X.K C f) (F : Fg X k f fd ps sp) (z : RoomG (k + 1) X.A) (hg : Gl X x)
    (hm : X.mg x = some (.ref C)) (hb : BindsD X.K fd ps dvs) (hx : Ps X E) (ha : PA X (e :: es) t)
    (hdb : (x == ("__debug__" : Str)) = false := by decide)
    (he : starEach (e :: es) X.env = (false, eval e X.env) :: starEach es X.env := by rfl)
    (hpl : (backTo pos (starEach es X.env)).any (·.1) = false := by rfl) :
    PE X (.Call (.Name x p) (e :: es) [] pos) (tMk C sp dvs E t) := by
  obtain ⟨ds, hd, hb⟩ := hb
  constructor
  intro pins s σ H Q I h
  refine wpAny_Call_Name_kw (ld_glob I hg hm ?_ hdb)
  refine PySem.W.callWith_K (h₀ := X.base) I.ok.mod.kin M.kp ?_ he hpl
  refine thn (ha.run pos pins s σ H _ I h) ?_
  intro us s1 y
  obtain ⟨vs, H1, I1, r, q⟩ := y
  refine ⟨I1.kIn, ?_⟩
  obtain ⟨x0, hl⟩ := made_len F I1 q
  refine runM (us := fun x => .ref x :: (us ++ ds)) M F z hx I1 ?_ q (fun x => .cons rfl (r.append hd))
  intro s2 x2 kin
  refine hb s2 (.ref x2 :: us) kin ?_
  rw [← hl]
  have e1 := r.length
  have e2 := hd.length
  simp only [List.length_cons, List.length_append, List.cons_append] at *
  omega
theorem mk0 (M : Mk X.K C f) (F : Fg X k f fd ps sp) (z : RoomG (k + 1) X.A) (hg : Gl X x)
    (hm : X.mg x = some (.ref C)) (hb : BindsD X.K fd ps dvs) (hx : Ps X E)
    (hdb : (x == ("__debug__" : Str)) = false := by decide) :
    PE X (.Call (.Name x p) [] [] pos) (tMk C sp dvs E tNil) := by
  obtain ⟨ds, hd, hb⟩ := hb
  constructor
  intro pins s σ H Q I h
  refine wpAny_Call_Name_kw (ld_glob I hg hm ?_ hdb)
  refine PySem.W.callWith_K0 I.kIn M.kp ?_
  obtain ⟨x0, hl⟩ := made_len F I h
  refine runM (us0 := []) (us := fun x => .ref x :: ([] ++ ds)) M F z hx I ?_ h (fun x => .cons rfl (Vals.append .nil hd))
  intro s2 x2 kin
  refine hb s2 [.ref x2] kin ?_
  rw [← hl]
  have e2 := hd.length
  simp only [List.length_cons, List.length_append, List.cons_append, List.length_nil, List.nil_append] at *
  omega
theorem mkK (M : Mk X.K C f) (F : Fg X k f fd ps sp) (z : RoomG (k + 1) X.A) (hg : Gl X x)
    (hm : X.mg x = some (.ref C)) (hb : KBnD X.K fd ps (n + 1) ks gV) (hx : Ps X E) (ha : PA X (e :: es) t)
    (hkw : PK X kws tk)
    (hall : (backToKw pos (keywordEach kws X.env)).all (·.1.isSome) = true := by rfl)
    (hks : (backToKw pos (keywordEach kws X.env)).filterMap (·.1) = ks := by rfl)
    (hdb : (x == ("__debug__" : Str)) = false := by decide)
    (he : starEach (e :: es) X.env = (false, eval e X.env) :: starEach es X.env := by rfl)
    (hpl : ((backTo pos (starEach (e :: es) X.env)).any (·.1) ||
      (backToKw pos (keywordEach kws X.env)).any (·.1.isNone)) = false := by rfl) :
    PE X (.Call (.Name x p) (e :: es) kws pos) (tMkK C n ks.length sp gV E t tk) := by
  obtain ⟨g, hb⟩ := hb
  constructor
  intro pins s σ H Q I h
  refine wpAny_Call_Name_kw (ld_glob I hg hm ?_ hdb)
  refine PySem.W.callWith_KW (h₀ := X.base) I.ok.mod.kin M.kp hall ?_ hpl he
  refine thn (ha.run pos pins s σ H _ I h) ?_
  intro us s1 y
  obtain ⟨vs, H1, I1, r, q⟩ := y
  refine thn (hkw.run pos pins s1 σ H1 _ I1 q) ?_
  intro ws s2 y
  obtain ⟨zs, H2, I2, rz, l1, l2, q2⟩ := y
  refine ⟨I2.kIn, ?_⟩
  rw [hks]
  refine runM (us := fun x => g (.ref x :: us) ws) M F z hx I2 ?_ q2 (fun x => hb.rel (.cons rfl r) rz)
  intro s3 x3 kin
  refine hb.to s3 (.ref x3 :: us) ws kin ?_ (rz.length.symm.trans l2)
  rw [List.length_cons, ← r.length, l1]
theorem mkK0 (M : Mk X.K C f) (F : Fg X k f fd ps sp) (z : RoomG (k + 1) X.A) (hg : Gl X x)
    (hm : X.mg x = some (.ref C)) (hb : KBnD X.K fd ps 1 ks gV) (hx : Ps X E)
    (hkw : PK X kws tk)
    (hall : (backToKw pos (keywordEach kws X.env)).all (·.1.isSome) = true := by rfl)
    (hks : (backToKw pos (keywordEach kws X.env)).filterMap (·.1) = ks := by rfl)
    (hdb : (x == ("__debug__" : Str)) = false := by decide)
    (hpl : ((backTo pos (starEach [] X.env)).any (·.1) ||
      (backToKw pos (keywordEach kws X.env)).any (·.1.isNone)) = false := by rfl) :
    PE X (.Call (.Name x p) [] kws pos) (tMkK C 0 ks.length sp gV E tNil tk) := by
  obtain ⟨g, hb⟩ := hb
  constructor
  intro pins s σ H Q I h
  refine wpAny_Call_Name_kw (ld_glob I hg hm ?_ hdb)
  refine PySem.W.callWith_KW0 (h₀ := X.base) I.ok.mod.kin M.kp hall ?_ hpl
  refine thn (hkw.run pos pins s σ H _ I h) ?_
  intro ws s2 y
  obtain ⟨zs, H2, I2, rz, l1, l2, q2⟩ := y
  refine ⟨I2.kIn, ?_⟩
  rw [hks]
  refine runM (us0 := []) (us := fun x => g [.ref x] ws) M F z hx I2 ?_ q2 (fun x => hb.rel (.cons rfl .nil) rz)
  intro s3 x3 kin
  exact hb.to s3 [.ref x3] ws kin rfl (rz.length.symm.trans l2)
end
section
variable {P : Program} {w : World} {K : PySem.W.Frag} {mg : Str → Option Value} {base : Heap}
theorem okD {x qual : Str} {params : Arguments} {body : List Stmt} {scope : Scope} {dvs : List V} {kws : List (Str × V)}
    {f : Addr} {fd : FuncData} {N ps : List Str} {k : Nat} {sp : Sp}
    (F : FunD K x qual params body scope dvs kws f fd) (S : FnScope N ps scope)
    (len : ∀ vs H Q E, sp vs H Q E → vs.length = ps.length)
    (hb : ∀ (cdv : Value) (A : Around) (outer : List Env) (s : Shared) (H : Hp) (vs : List V)
      (Q : VK) (E : XK), RoomG k (A.deeper (envOfC qual scope s.heap.objs.size f cdv)) →
      sp vs H Q E →
      ∃ t, PSs (cxOf (L2.CX P w) P w K mg base N qual scope f cdv A outer s H E) body t ∧
        t { nx := fun _ H' => Q .non H', rt := Q } (start N vs) H) :
    FnG P w K mg base (k + 1) f fd ps sp := by
  obtain ⟨oc, od, dV, kV, doc, pm, an, cdv, ct, osl, rfl, lk, hcd, _, _⟩ := F.ex
  exact FnG.body lk hcd S len fun A outer s H vs Q E z h => hb cdv A outer s H vs Q E z h
end
/-! readings of these -/
section
variable {K : PySem.W.Frag} {σ : L2.St} {H : Hp} {Q : VK} {D : Ends} {a C dx p : Addr} {fs : List (Str × V)} {f m : Str} {v : V}
variable {ta tv : TE} {t tk : TA} {sp : Sp} {E : XK} {vs zs : List V} {gV : List V → List V → List V} {n k : Nat}
def MethR (C : Addr) (m : Str) (sp : Sp) (E : XK) (t : TA) (σ : L2.St) (x : V) (H1 : Hp) (Q : VK) : Prop :=
  ∃ a dx fs, x = .ref a ∧ H1 a = some (.ins C dx fs) ∧ fs.lookup m = none ∧ t σ H1 fun vs H2 => sp (x :: vs) H2 Q E
theorem i_meth (h : ta σ H fun x H1 => MethR C m sp E t σ x H1 Q) : tMeth C m sp [] E ta t σ H Q := by
  unfold tMeth
  simp only [List.append_nil]
  exact h
theorem i_methR (ho : H a = some (.ins C dx fs)) (hl : fs.lookup m = none)
    (h : t σ H fun vs H2 => sp (.ref a :: vs) H2 Q E) : MethR C m sp E t σ (.ref a) H Q := ⟨a, dx, fs, rfl, ho, hl, h⟩
def MethW (C : Addr) (nm : Str) (n m : Nat) (sp : Sp) (gV : List V → List V → List V) (E : XK) (t tk : TA) (σ : L2.St) (x : V)
    (H1 : Hp) (Q : VK) : Prop := ∃ a dx fs, x = .ref a ∧ H1 a = some (.ins C dx fs) ∧ fs.lookup nm = none ∧
    t σ H1 fun vs H2 => tk σ H2 fun zs H3 => vs.length = n ∧ zs.length = m ∧ sp (gV (x :: vs) zs) H3 Q E
theorem i_methW (h : ta σ H fun x H1 => MethW C m n k sp gV E t tk σ x H1 Q) : tMw C m n k sp gV E ta t tk σ H Q := h
theorem i_methWR (ho : H a = some (.ins C dx fs)) (hl : fs.lookup m = none)
    (h : t σ H fun vs H2 => tk σ H2 fun zs H3 => vs.length = n ∧ zs.length = k ∧ sp (gV (.ref a :: vs) zs) H3 Q E) :
    MethW C m n k sp gV E t tk σ (.ref a) H Q := ⟨a, dx, fs, rfl, ho, hl, h⟩
theorem i_lens {P : Prop} (h1 : vs.length = n) (h2 : zs.length = k) (h : P) : vs.length = n ∧ zs.length = k ∧ P := ⟨h1, h2, h⟩
theorem i_kw (h : t σ H fun vs H1 => tk σ H1 fun zs H2 => vs.length = n ∧ zs.length = k ∧ sp (gV vs zs) H2 Q E) :
    tKw n k sp gV E t tk σ H Q := h
theorem i_mk (h : t σ H fun vs H1 => Made C sp E H1 Q fun x => .ref x :: vs) : tMk C sp [] E t σ H Q := by
  unfold tMk
  simp only [List.append_nil]
  exact h
theorem i_mkD {dvs : List V} (h : t σ H fun vs H1 => Made C sp E H1 Q fun x => .ref x :: (vs ++ dvs)) : tMk C sp dvs E t σ H Q := h
theorem i_mkK (h : t σ H fun vs H1 => tk σ H1 fun zs H2 => vs.length = n ∧ zs.length = k ∧
    Made C sp E H2 Q fun x => gV (.ref x :: vs) zs) : tMkK C n k sp gV E t tk σ H Q := h
/-- an attribute -/
def FldR (K : PySem.W.Frag) (f : Str) (x : V) (H1 : Hp) (Q : VK) : Prop := ∃ a C dx fs v, x = .ref a ∧
  H1 a = some (.ins C dx fs) ∧ Cls K C ∧ NoAttr K C f ∧ fs.lookup f = some v ∧ Q v H1
theorem i_fld (h : ta σ H fun x H1 => FldR K f x H1 Q) : tFld K ta f σ H Q := h
theorem i_fldR (ho : H a = some (.ins C dx fs)) (c : Cls K C) (n : NoAttr K C f) (hl : fs.lookup f = some v)
    (h : Q v H) : FldR K f (.ref a) H Q := ⟨a, C, dx, fs, v, rfl, ho, c, n, hl, h⟩
def FldS (K : PySem.W.Frag) (f : Str) (y x : V) (D : Ends) (σ : L2.St) (H2 : Hp) : Prop := ∃ a C dx fs, x = .ref a ∧
  H2 a = some (.ins C dx fs) ∧ Cls K C ∧ NoAttr K C f ∧ fs.length < 1000 ∧ D.nx σ (upd H2 a (.ins C dx (putF f y fs)))
theorem i_fldS (h : tv σ H fun y H1 => ta σ H1 fun x H2 => FldS K f y x D σ H2) : sFld K ta tv f D σ H := h
theorem i_fldSR {y : V} (ho : H a = some (.ins C dx fs)) (c : Cls K C) (n : NoAttr K C f) (hl : fs.length < 1000)
    (h : D.nx σ (upd H a (.ins C dx (putF f y fs)))) : FldS K f y (.ref a) D σ H := ⟨a, C, dx, fs, rfl, ho, c, n, hl, h⟩
end
end G
namespace G
open PySem PySem.Spec PyProof.Rows L2
/-! the facts of the top -/
section
variable {K : PySem.W.Frag} {x qual : Str} {st : Stmt} {f D : Addr} {oc : Value} {od an : Option Addr} {osl : Array (Option Value)}
variable {kV doc pm cdv ct : Value} {ps : List Str}
theorem fund0 (l : K.lookup f = some ⟨oc, od, .func (PySem.W.fnOf x qual (defArgs st) (defBody st)
      (defScope st) .none kV doc pm an cdv ct), osl⟩)
    (c : PySem.W.codeIn K cdv qual = true) (k : PySem.W.keepIn K (.ref f) = true) :
    FunD K x qual (defArgs st) (defBody st) (defScope st) [] [] f
      (PySem.W.fnOf x qual (defArgs st) (defBody st) (defScope st) .none kV doc pm an cdv ct) :=
  ⟨⟨oc, od, .none, kV, doc, pm, an, cdv, ct, osl, rfl, l, c, .inl ⟨rfl, rfl⟩, .inl rfl⟩, k⟩
theorem fund1 {kws : List (Str × V)} (l : K.lookup f = some ⟨oc, od, .func (PySem.W.fnOf x qual (defArgs st) (defBody st)
      (defScope st) .none (.ref D) doc pm an cdv ct), osl⟩)
    (c : PySem.W.codeIn K cdv qual = true) (k : PySem.W.keepIn K (.ref f) = true)
    (q : ∀ q ∈ kws, ∃ u, PySem.W.nsIn K D q.1 = some (some u) ∧ RelV q.2 u) :
    FunD K x qual (defArgs st) (defBody st) (defScope st) [] kws f
      (PySem.W.fnOf x qual (defArgs st) (defBody st) (defScope st) .none (.ref D) doc pm an cdv ct) :=
  ⟨⟨oc, od, .none, .ref D, doc, pm, an, cdv, ct, osl, rfl, l, c, .inl ⟨rfl, rfl⟩, .inr ⟨D, rfl, q⟩⟩, k⟩
theorem kw_one {nm : Str} {v : V} {u : Value} (e : PySem.W.nsIn K D nm = some (some u)) (r : RelV v u) :
    ∀ q ∈ [(nm, v)], ∃ u, PySem.W.nsIn K D q.1 = some (some u) ∧ RelV q.2 u := fun q hq => by
  rw [List.mem_singleton.mp hq]
  exact ⟨u, e, r⟩
theorem kw_more {nm : Str} {v : V} {u : Value} {l : List (Str × V)} (e : PySem.W.nsIn K D nm = some (some u)) (r : RelV v u)
    (h : ∀ q ∈ l, ∃ u, PySem.W.nsIn K D q.1 = some (some u) ∧ RelV q.2 u) :
    ∀ q ∈ (nm, v) :: l, ∃ u, PySem.W.nsIn K D q.1 = some (some u) ∧ RelV q.2 u := fun q hq => by
  rcases List.mem_cons.mp hq with z | z
  · rw [z]
    exact ⟨u, e, r⟩
  · exact h q z
/-- positional values, then by places of what the keywords and the defaults give -/
def gp (idx : List Nat) {α : Type} (vs mz zs : List α) : List α := vs ++ idx.filterMap fun i => (zs ++ mz)[i]?
theorem vals_idx {vs : List V} {us : List Value} (r : Vals vs us) : ∀ idx : List Nat,
    Vals (idx.filterMap fun i => vs[i]?) (idx.filterMap fun i => us[i]?)
  | [] => .nil
  | i :: idx => by
    have ih := vals_idx r idx
    cases e : vs[i]? with
    | none =>
      have e2 := Vals.none_of r e
      rw [List.filterMap_cons_none e, List.filterMap_cons_none e2]
      exact ih
    | some v =>
      obtain ⟨u, e2, q⟩ := Vals.get r e
      rw [List.filterMap_cons_some e, List.filterMap_cons_some e2]
      exact .cons q ih
theorem gp_rel (idx : List Nat) {vs mz zs : List V} {us mv ws : List Value} (r : Vals vs us) (r1 : Vals mz mv) (r2 : Vals zs ws) :
    Vals (gp idx vs mz zs) (gp idx us mv ws) := r.append (vals_idx (r2.append r1) idx)
variable {params : Arguments} {body : List Stmt} {scope : Scope} {fd : FuncData} {kws : List (Str × V)}
theorem bindN (F : FunD K x qual params body scope [] [] f fd)
    (h : ∀ (kV doc pm : Value) (an : Option Addr) (cdv ct : Value) (us : List Value), us.length = ps.length →
      bindArgs (PySem.W.fnOf x qual params body scope .none kV doc pm an cdv ct) ⟨us, []⟩ = pure (ps.zip us)) :
    BindsD K fd ps [] := BindsD.plain (F.bindsN h)
theorem bindK (F : FunD K x qual params body scope [] kws f fd) (n : Nat) (hk : kws ≠ []) (hn : n + kws.length = ps.length)
    (h : ∀ (D : Addr) (doc pm : Value) (an : Option Addr) (cdv ct : Value) (us ks : List Value), us.length = n →
      ks.length = kws.length → KwChain D ((kws.map (·.1)).zip ks)
        (bindArgs (PySem.W.fnOf x qual params body scope .none (.ref D) doc pm an cdv ct) ⟨us, []⟩) (ps.zip (us ++ ks))) :
    BindsD K fd ps (kws.map (·.2)) := F.binds0 n hk hn h
theorem kbN (F : FunD K x qual params body scope [] [] f fd) (n : Nat) (ks : List Str) (idx : List Nat)
    (h : ∀ (kV doc pm : Value) (an : Option Addr) (cdv ct : Value) (us ws : List Value), us.length = n →
      ws.length = ks.length → bindArgs (PySem.W.fnOf x qual params body scope .none kV doc pm an cdv ct) ⟨us, ks.zip ws⟩ =
        pure (ps.zip (gp idx us [] ws))) : KBnD K fd ps n ks (fun vs zs => gp idx vs [] zs) := by
  refine ⟨fun us ws => gp idx us [] ws, ?_, fun r1 r2 => gp_rel idx r1 .nil r2⟩
  intro s us ws kin l1 l2
  obtain ⟨oc, od, dV, kV, doc, pm, an, cdv, ct, osl, rfl, lk, hcd, hD, hK⟩ := F.ex
  rcases hD with ⟨_, rfl⟩ | ⟨e, _⟩
  · exact .of_eq (h kV doc pm an cdv ct us ws l1 l2)
  · exact absurd rfl e
theorem kbK (F : FunD K x qual params body scope [] kws f fd) (n : Nat) (ks : List Str) (ms : List (Str × V)) (idx : List Nat)
    (hk : kws ≠ []) (hms : ∀ q ∈ ms, q ∈ kws)
    (h : ∀ (D : Addr) (doc pm : Value) (an : Option Addr) (cdv ct : Value) (us mv ws : List Value), us.length = n →
      mv.length = ms.length → ws.length = ks.length → KwChain D ((ms.map (·.1)).zip mv)
        (bindArgs (PySem.W.fnOf x qual params body scope .none (.ref D) doc pm an cdv ct) ⟨us, ks.zip ws⟩)
        (ps.zip (gp idx us mv ws))) : KBnD K fd ps n ks (fun vs zs => gp idx vs (ms.map (·.2)) zs) := by
  obtain ⟨mv, h⟩ := F.kbinds0 n ks ms (fun vs mz zs => gp idx vs mz zs) hk hms (fun r r1 r2 => gp_rel idx r r1 r2) h
  exact ⟨_, h⟩
end
end G
namespace G
open PySem PySem.Spec PyProof.Rows L2
section
variable {X : Cx} {K : PySem.W.Frag} {k n : Nat} {f C : Addr} {fd : FuncData} {ps : List Str} {sp : Sp}
variable {dvs : List V} {E : XK} {x m : Str} {p pos pos' : Pos} {e o value : Expr} {fl : Str} {ta tv : TE}
theorem d0 (F : Fg X k f fd ps sp) (z : RoomG k X.A) (hg : Gl X x) (hm : X.mg x = some (.ref f))
    (hk : PySem.W.keepIn X.K (.ref f) = true) (hb : BindsD X.K fd ps dvs)
    (hx : Ps X E) (hdb : (x == ("__debug__" : Str)) = false := by decide) :
    PE X (.Call (.Name x p) [] [] pos) (tCall sp dvs E tNil) := by
  obtain ⟨ds, hd, hb⟩ := hb
  exact c0 F z hg hm hk hb hd hx hdb
theorem k_sfld (h : X.K = K) (ha : PE X o ta) (hv : PE X value tv)
    (hs : swapsWith value (some (.Attribute o fl pos')) pos.line X.env = pure false) :
    PS X (.Assign [.Attribute o fl pos'] value pos) (sFld K ta tv fl) := h ▸ ps_fld ha hv hs
theorem k_pzip {e2 : Expr} {t : TA} {tpos : Pos} {elts : List Expr} {kk : Nat} (h : X.K = K) (hg : Gl X "zip") (hm : X.mg "zip" = none)
    (ha : PA X [e, e2] t) (hs : starEach [e, e2] X.env = (false, eval e X.env) :: starEach [e2] X.env := by rfl)
    (hpl : (backTo pos (starEach [e2] X.env)).any (·.1) = false := by rfl) :
    PI X (.Tuple elts kk tpos) (.Call (.Name "zip" p) [e, e2] [] pos) (iZip K t) := h ▸ pi_zip hg hm ha hs hpl
end
section
variable {K : PySem.W.Frag} {σ : L2.St} {H H1 : Hp} {Q : VK} {D : Ends} {tb : TS} {te : TE} {tt : TT} {g : TG}
variable {a b p q l C dx : Addr} {xs ys vs us : List V} {v x y : V} {fs : List (Str × V)} {f m : Str} {t ta : TE} {tr : TA} {sp : Sp} {E : XK}
variable {dvs : List V} {vn : List Nat}
theorem i_methD {t : TA} (h : ta σ H fun x H1 => MethR C m sp E (fun σ H Q => t σ H fun vs H' => Q (vs ++ dvs) H') σ x H1 Q) :
    tMeth C m sp dvs E ta t σ H Q := h
theorem i_isNn (h : Q (.bl true) H) : rIsN .non .non H Q := ⟨rfl, h⟩
theorem i_isNr (h : Q (.bl false) H) : rIsN (.ref a) .non H Q := ⟨rfl, h⟩
theorem i_isNi {n : Int} (h : Q (.bl false) H) : rIsN (.int n) .non H Q := ⟨rfl, h⟩
theorem i_notNn (h : Q (.bl false) H) : rNotN .non .non H Q := ⟨rfl, h⟩
theorem i_notNr (h : Q (.bl true) H) : rNotN (.ref a) .non H Q := ⟨rfl, h⟩
theorem i_notNi {n : Int} (h : Q (.bl true) H) : rNotN (.int n) .non H Q := ⟨rfl, h⟩
/-- a for over zip of two lists -/
def ForZ (K : PySem.W.Frag) (ws : List V) (g : TG) (tb : TS) (D : Ends) (σ : L2.St) (H : Hp) : Prop :=
  ∃ a b xs ys, ws = [.ref a, .ref b] ∧ SqL K H a xs ∧ SqL K H b ys ∧ ∃ W : Nat → Nat → L2.St → Hp → Prop,
    (∃ m, W 0 m σ H) ∧ ∀ i m σ H, W i m σ H → ((Itz K a b).stop i H ∧ D.nx σ H) ∨
      ((Itz K a b).go i H ∧ ∃ Nx : L2.St → Hp → Prop,
        (∀ σ' H', Nx σ' H' → ∃ m', m' < m ∧ W (i + 1) m' σ' H') ∧
        ∀ x H', (Itz K a b).yld i H x H' → g x σ H' fun σ2 H2 =>
          tb { D with nx := Nx, ct := Nx, bk := D.nx } σ2 H2)
theorem i_forZ (h : tr σ H fun ws H1 => ForZ K ws g tb D σ H1) : tFor (iZip K tr) g tb D σ H := h
theorem i_both (hx : SqL K H a xs) (hy : SqL K H b ys) (Pv : Nat → L2.St → Hp → Prop) (h0 : Pv 0 σ H)
    (hl : ∀ i σ H, Pv i σ H → SqL K H a xs ∧ SqL K H b ys)
    (st : ∀ i x y T σ H, xs[i]? = some x → ys[i]? = some y → Pv i σ H → Fr H T → g (.ref T) σ (upd H T (.tup [x, y])) fun σ2 H2 =>
      tb { D with nx := Pv (i + 1), ct := Pv (i + 1), bk := D.nx } σ2 H2)
    (hd : ∀ σ H, Pv (min xs.length ys.length) σ H → D.nx σ H) : ForZ K [.ref a, .ref b] g tb D σ H := by
  refine ⟨a, b, xs, ys, rfl, hx, hy, fun i m σ H => m = min xs.length ys.length - i ∧ i ≤ min xs.length ys.length ∧ Pv i σ H,
    ⟨_, rfl, Nat.zero_le _, h0⟩, ?_⟩
  rintro i m σ H ⟨rfl, hi, z⟩
  obtain ⟨qx, qy⟩ := hl i σ H z
  by_cases c : i < min xs.length ys.length
  · have c1 : i < xs.length := by omega
    have c2 : i < ys.length := by omega
    refine .inr ⟨⟨xs, ys, _, _, qx, qy, List.getElem?_eq_getElem c1, List.getElem?_eq_getElem c2⟩, Pv (i + 1),
      fun σ' H' w => ⟨_, by omega, rfl, by omega, w⟩, ?_⟩
    rintro v H' ⟨T, x', y', rfl, hT, rfl, f1, f2⟩
    exact st i x' y' T σ H (f1 xs qx) (f2 ys qy) z ⟨hT⟩
  · have e : i = min xs.length ys.length := by omega
    refine .inl ⟨⟨xs, ys, qx, qy, by omega⟩, hd σ H (by rw [← e]; exact z)⟩
/-- a comprehension over zip of two lists -/
def LcZ (K : PySem.W.Frag) (ws : List V) (g : TG) (tt : TT) (te : TE) (vs : List Nat) (σ : L2.St) (H1 : Hp) (Q : VK) : Prop :=
  ∃ a b xs ys, ws = [.ref a, .ref b] ∧ SqL K H1 a xs ∧ SqL K H1 b ys ∧ ∀ D, H1 D = none →
    ∃ W : Nat → Nat → Hp → Prop, (∃ m, W 0 m (upd H1 D (.lst []))) ∧ ∀ i m H, W i m H →
      ((Itz K a b).stop i H ∧ Q (.ref D) H) ∨ ((Itz K a b).go i H ∧ ∃ Nx : Hp → Prop,
        (∀ H', Nx H' → ∃ m', m' < m ∧ W (i + 1) m' H') ∧
        ∀ x H', (Itz K a b).yld i H x H' → g x (wipe σ vs) H' fun σ2 H2 => wipe σ2 vs = wipe σ vs ∧ tt σ2 H2 fun b H3 =>
          if b = true then te σ2 H3 fun y H4 => ∃ acc, H4 D = some (.lst acc) ∧ acc.length < sizeLine ∧
            Nx (upd H4 D (.lst (acc ++ [y]))) else Nx H3)
theorem i_lcZ (h : tr σ H fun ws H1 => LcZ K ws g tt te vn σ H1 Q) : tLc (iZip K tr) g tt te vn σ H Q := h
theorem i_eltz (hx : SqL K H a xs) (hy : SqL K H b ys) (Pv : Addr → Nat → Hp → Prop)
    (h0 : ∀ D, Fr H D → Pv D 0 (upd H D (.lst [])))
    (hl : ∀ D i H', Fr H D → Pv D i H' → SqL K H' a xs ∧ SqL K H' b ys)
    (st : ∀ D i x y T H', Fr H D → xs[i]? = some x → ys[i]? = some y → Pv D i H' → Fr H' T →
      g (.ref T) (wipe σ vn) (upd H' T (.tup [x, y])) fun σ2 H2 =>
      wipe σ2 vn = wipe σ vn ∧ tt σ2 H2 fun b H3 => if b = true then te σ2 H3 fun y H4 =>
        ∃ acc, H4 D = some (.lst acc) ∧ acc.length < sizeLine ∧ Pv D (i + 1) (upd H4 D (.lst (acc ++ [y])))
        else Pv D (i + 1) H3)
    (hd : ∀ D H', Fr H D → Pv D (min xs.length ys.length) H' → Q (.ref D) H') : LcZ K [.ref a, .ref b] g tt te vn σ H Q := by
  refine ⟨a, b, xs, ys, rfl, hx, hy, fun D hD => ⟨fun i m H => m = min xs.length ys.length - i ∧ i ≤ min xs.length ys.length ∧ Pv D i H,
    ⟨_, rfl, Nat.zero_le _, h0 D ⟨hD⟩⟩, ?_⟩⟩
  rintro i m H ⟨rfl, hi, z⟩
  obtain ⟨qx, qy⟩ := hl D i H ⟨hD⟩ z
  by_cases c : i < min xs.length ys.length
  · have c1 : i < xs.length := by omega
    have c2 : i < ys.length := by omega
    refine .inr ⟨⟨xs, ys, _, _, qx, qy, List.getElem?_eq_getElem c1, List.getElem?_eq_getElem c2⟩, Pv D (i + 1),
      fun H' w => ⟨_, by omega, rfl, by omega, w⟩, ?_⟩
    rintro v H' ⟨T, x', y', rfl, hT, rfl, f1, f2⟩
    exact st D i x' y' T H ⟨hD⟩ (f1 xs qx) (f2 ys qy) z ⟨hT⟩
  · have e : i = min xs.length ys.length := by omega
    refine .inl ⟨⟨xs, ys, qx, qy, by omega⟩, hd D H ⟨hD⟩ (by rw [← e]; exact z)⟩
/-- [v] * n -/
theorem i_rep {n : Int} (h : H l = some (.lst [v])) (h0 : 0 ≤ n) (h1 : n ≤ 1000000)
    (q : New H fun p => Q (.ref p) (upd H p (.lst (List.replicate n.toNat v)))) : rRep (.ref l) (.int n) H Q := by
  refine ⟨l, n, [v], rfl, rfl, h, by omega, by omega, ?_, fun p hp => ?_⟩
  · have e : ([v] : List V).length * n.toNat ≤ 1000000 := by
      rw [List.length_singleton]
      omega
    exact Nat.le_trans e (by decide)
  · have e : (List.replicate n.toNat [v]).flatten = List.replicate n.toNat v := by
      induction n.toNat with
      | zero => rfl
      | succ k ih => rw [List.replicate_succ, List.flatten_cons, ih, List.replicate_succ]; rfl
    rw [e]
    exact q p hp
/-- an object's entry -/
theorem Kp.upi {ws : List Addr} {H0 H1 : Hp} (k : Kp ws H0 H1) (h : H1 p = some (.ins C dx fs)) (hp : p ∈ ws) {o : HO} : Kp ws H0 (L2.upd H1 p o) :=
  k.trans (Kp.mut h (fun z => z) hp)
end
/-! ### runs and cells -/
def cells (ps : List (Int × Int)) : List Int := ps.flatMap fun p => List.replicate p.1.toNat p.2
def tag (c : Int) : Int × Int := (1, c)
end G
namespace G
open PySem PySem.Spec PyProof.Rows L2
section
variable {K : PySem.W.Frag} {σ : L2.St} {H H1 : Hp} {Q : VK} {a b p q l m C dx : Addr} {xs ys : List V} {fs : List (Str × V)} {o : HO}
variable {ds : List PyData} {ws : List Addr}
theorem i_addL (hx : H a = some (.lst xs)) (hy : H b = some (.lst ys)) (hz : xs.length + ys.length ≤ 1000000)
    (h : New H fun p => Q (.ref p) (upd H p (.lst (xs ++ ys)))) : uAdd K (.ref a) (.ref b) H Q :=
  .inr (.inr (.inl ⟨a, b, xs, ys, rfl, rfl, hx, hy, Nat.le_trans hz (by decide), h⟩))
theorem ld_ins (h : LD K H l ds) (hi : imms ds = true) (hq : H q = some (.ins C dx fs)) : LD K (upd H q o) l ds := by
  have k : Kp [q] H (L2.upd H q o) := Kp.mut hq (fun z => z) List.mem_cons_self
  refine h.kp k hi (not_one ?_)
  obtain ⟨vs, e, _⟩ := h
  intro z
  rw [z, hq] at e
  cases e
end
end G
namespace G
open L2 PySem
theorem fs_few {fs : List (Str × V)} (h : fs.length.blt 1000 = true) : fs.length < 1000 := by
  rw [Nat.blt_eq] at h
  exact h
end G
namespace G
open L2 PySem
theorem ld_push {K : PySem.W.Frag} {H0 H1 : Hp} {l : Addr} {vs : List V} {y : V} {ds : List PyData} {d : PyData} {ws : List Addr}
    (kp : Kp ws H0 H1) (h : DpAll K H0 vs ds) (hi : imms ds = true) (hv : H1 l = some (.lst (vs ++ [y]))) (hd : Dp K H1 y d) :
    LD K H1 l (ds ++ [d]) := ⟨_, hv, dpa_app (dpa_imm kp _ _ hi h) (dpa_one hd)⟩
end G
namespace G
open PySem PySem.Spec PyProof.Rows L2
/-! slices: read and written -/
section
variable {X : Cx} {o : Expr} {lo hi : Option Expr} {to : TE} {tl th : TO} {pos p2 : Pos}
def CutS (x : V) (i j : Option Int) (v : V) (H : Hp) (P : Hp → Prop) : Prop := ∃ l b xs ys a c, x = .ref l ∧ v = .ref b ∧
  i = some a ∧ j = some c ∧ H l = some (.lst xs) ∧ H b = some (.lst ys) ∧ l ≠ b ∧ 0 ≤ a ∧ a ≤ c ∧ c ≤ xs.length ∧
  xs.length + ys.length ≤ sizeLine ∧ P (upd H l (.lst (xs.take a.toNat ++ ys ++ xs.drop c.toNat)))
def gCut (to : TE) (tl th : TO) : TG := fun v σ H S => to σ H fun x H1 => tl σ H1 fun i H2 => th σ H2 fun j H3 =>
  CutS x i j v H3 fun H4 => S σ H4
theorem pg_cut (ho : PE X o to) (hl : PO X lo tl) (hu : PO X hi th)
    (ha : ∀ v, assign (.Subscript o (.Slice lo hi none p2) pos) X.env v = (do
      let ov ← holding [v] (eval o X.env)
      let iv ← holding [v, ov] (eval (.Slice lo hi none p2) X.env)
      standAt pos
      holding [v, ov, iv] (setItem ov iv v)
      release [iv, v, ov] []) := by intro _; rfl) :
    PG X (.Subscript o (.Slice lo hi none p2) pos) (gCut to tl th) := by
  constructor
  intro pins s σ H v u Q I r h
  rw [ha]
  refine wpAny_bind (wpAny_holding (thn (ho.run pins s σ H _ I h) ?_))
  rintro ov s1 ⟨x, H1, I1, r1, q1⟩
  refine wpAny_bind (wpAny_holding (PySem.wpAny_Slice (thn (hl.run pins s1 σ H1 _ I1 q1) ?_)))
  rintro vl s2 ⟨i, H2, I2, pl, q2⟩
  refine thn (hu.run pins s2 σ H2 _ I2 q2) ?_
  rintro vu s3 ⟨j, H3, I3, pu, q3⟩
  rw [evalPart_none]
  refine wpAny_pure ?_
  have I4 : Inv X pins σ H3 { s3 with heap := s3.heap.push { cls := .type "slice", data := .fields #[vl, vu, .none] } } :=
    I3.kept (t' := s3.toks) fun b ob z => Heap.get?_push_of_some _ z
  obtain ⟨l, b, xs, ys, a, c, rfl, rfl, rfl, rfl, e1, e2, ne, h0, hac, hc, hz, q⟩ := q3
  cases r1
  cases r
  cases pl
  rename_i ta
  cases pu
  rename_i tc
  refine wpAny_bind (wpAny_standAt (wpAny_bind (wpAny_holding ?_)))
  refine set_slice I4 e1 e2 ne (Heap.IsSliceOf.new ..) ⟨ta, rfl⟩ ⟨tc, rfl⟩ h0 hac hc hz ?_
  intro s5 I5
  exact wpAny_release ⟨σ, _, I5, q⟩
end
section
variable {K : PySem.W.Frag} {σ : L2.St} {H : Hp} {Q : VK} {a b l : Addr} {xs ys : List V} {r : V → Option Int → Option Int → Hp → VK → Prop}
variable {te to : TE} {tl th : TO} {P : Hp → Prop} {S : L2.St → Hp → Prop} {v x : V} {lo hi : Option Int} {R : Option Int → Hp → Prop}
theorem i_gCut (h : to σ H fun x H1 => tl σ H1 fun i H2 => th σ H2 fun j H3 => CutS x i j v H3 fun H4 => S σ H4) :
    gCut to tl th v σ H S := h
theorem i_cutS {i j : Int} (h1 : H l = some (.lst xs)) (h2 : H b = some (.lst ys)) (ne : l ≠ b) (h0 : 0 ≤ i ∧ i ≤ j ∧ j ≤ xs.length)
    (hz : xs.length + ys.length ≤ 1000000) (q : P (upd H l (.lst (xs.take i.toNat ++ ys ++ xs.drop j.toNat)))) :
    CutS (.ref l) (some i) (some j) (.ref b) H P :=
  ⟨l, b, xs, ys, i, j, rfl, rfl, rfl, rfl, h1, h2, ne, h0.1, h0.2.1, h0.2.2, Nat.le_trans hz (by decide), q⟩
theorem i_sl (h : te σ H fun x H1 => tl σ H1 fun l H2 => th σ H2 fun u H3 => r x l u H3 Q) : tSl r te tl th σ H Q := h
theorem i_part (h : te σ H fun x H1 => ∃ i, x = .int i ∧ R (some i) H1) : tPart te σ H R := h
theorem i_partI {n : Int} {P : Int → Prop} (h : P n) : ∃ i, V.int n = .int i ∧ P i := ⟨n, rfl, h⟩
theorem i_noPart (h : R none H) : tNoPart σ H R := h
theorem i_slL (h : SqL K H a xs) (q : New H fun p => Q (.ref p) (upd H p (.lst (cutV xs lo hi)))) : rSlL K (.ref a) lo hi H Q :=
  ⟨a, xs, rfl, h, q⟩
end
theorem cutV_mid {xs : List V} {i j : Int} (h : 0 ≤ i ∧ i ≤ j ∧ j ≤ xs.length) :
    cutV xs (some i) (some j) = (xs.drop i.toNat).take (j.toNat - i.toNat) := by
  obtain ⟨a, rfl⟩ := Int.eq_ofNat_of_zero_le h.1
  obtain ⟨c, rfl⟩ := Int.eq_ofNat_of_zero_le (Int.le_trans h.1 h.2.1)
  unfold cutV
  rw [HT.sIx_nat, HT.sIx_nat, Int.toNat_natCast, Int.toNat_natCast, Nat.min_eq_left (by omega), Nat.min_eq_left (by omega)]
theorem cutV_tail (x : V) (xs : List V) : cutV (x :: xs) (some 1) none = xs := by
  have e := HT.sIx_nat (x :: xs).length 0 1
  unfold cutV
  rw [show ((1 : Int)) = ((1 : Nat) : Int) from rfl, e, HT.sIx_none, List.length_cons, Nat.min_eq_left (by omega), List.drop_succ_cons, List.drop_zero]
  exact List.take_of_length_le (by omega)
theorem ix_nat {n j : Nat} (h : j < n) : ixN n (j : Int) = some j := by
  unfold ixN
  rw [if_pos (by omega), if_pos (by omega), Int.toNat_natCast]
theorem ix_int {n : Nat} {j : Int} (h0 : 0 ≤ j) (h : j < n) : ixN n j = some j.toNat := by
  unfold ixN
  rw [if_pos h0, if_pos h]
/-- one of two -/
theorem at_two {f : Nat → V} {r : Int} (h0 : 0 ≤ r) (h1 : r < 2) : atI [f 0, f 1] r = some (f r.toNat) := by
  have e : r = 0 ∨ r = 1 := by omega
  rcases e with rfl | rfl <;> rfl
end G
set_option Elab.async false
set_option linter.all false
set_option maxRecDepth 100000
set_option maxHeartbeats 4000000
namespace My
open PySem L2 G
local macro_rules | `(tactic| walk_at "g_tr") => `(tactic| first
  | with_reducible assumption
  | (with_reducible exact tr_of (by with_reducible assumption))
  | with_reducible exact tr_same
  | ((with_reducible refine tr_upd ?_); walk_at "g_tr")
  | (with_reducible exact tr_pot (by with_reducible assumption))
  | (with_reducible exact tr_ld (by with_reducible assumption))
  | ((with_reducible apply tr_kp (by with_reducible assumption) ?h); (case h => walk_at "g_tr")))
local macro_rules | `(tactic| walk_at "g_ne") => `(tactic| first
  | with_reducible assumption
  | (with_reducible exact Ne.symm (by with_reducible assumption))
  | ((with_reducible apply fr_tr ?h (by with_reducible assumption)); (case h => walk_at "g_tr"))
  | ((with_reducible apply Ne.symm (fr_tr ?h (by with_reducible assumption))); (case h => walk_at "g_tr")))
local macro_rules | `(tactic| walk_at "g_hp") => `(tactic| first
  | with_reducible assumption
  | with_reducible apply upd_same
  | ((with_reducible apply upd_nn ?h ?k); (case h => walk_at "g_ne"); (case k => walk_at "g_hp"))
  | ((with_reducible apply kp_at (by with_reducible assumption) ?h ?n); (case n => walk_at "g_ni"); (case h => walk_at "g_hp")))
local macro_rules | `(tactic| walk_at "g_ni") => `(tactic| first
  | exact not_nil
  | with_reducible assumption
  | ((with_reducible refine not_one ?_); walk_at "g_ne")
  | ((with_reducible refine not_two ?_ ?_) <;> walk_at "g_ne"))
local macro_rules | `(tactic| walk_at "g_pot") => `(tactic| first
  | with_reducible assumption
  | ((with_reducible apply pot_upd ?h ?n); (case n => walk_at "g_ne"); (case h => walk_at "g_pot"))
  | ((with_reducible apply PotAt.kp ?h (by with_reducible assumption) ?n); (case n => walk_at "g_ni"); (case h => walk_at "g_pot")))
local macro_rules | `(tactic| walk_at "g_ld") => `(tactic| first
  | with_reducible assumption
  | ((with_reducible apply ld_upd ?h ?i ?n); (case n => walk_at "g_fr"); (case i => walk_at "g_im"); (case h => walk_at "g_ld"))
  | ((with_reducible apply ld_upl ?h ?i ?n ?m); (case n => walk_at "g_hp"); (case m => walk_at "g_ne"); (case i => walk_at "g_im"); (case h => walk_at "g_ld"))
  | ((with_reducible apply ld_ins ?h ?i ?n); (case n => walk_at "g_hp"); (case i => walk_at "g_im"); (case h => walk_at "g_ld"))
  | ((with_reducible apply LD.kp ?h (by with_reducible assumption) ?i ?n); (case n => walk_at "g_ni"); (case i => walk_at "g_im"); (case h => walk_at "g_ld")))
local macro_rules | `(tactic| walk_at "g_im") => `(tactic| first
  | with_reducible assumption
  | exact imms_d2 _
  | rfl)
local macro_rules | `(tactic| walk_at "g_fx") => `(tactic| first
  | with_reducible assumption
  | with_reducible exact fx_refl
  | ((with_reducible apply fx_new ?h ?f); (case f => with_reducible assumption); (case h => walk_at "g_fx"))
  | ((with_reducible apply fx_mut ?h ?f ?g); (case f => walk_at "g_hp"); (case g => exact fun z => z); (case h => walk_at "g_fx"))
  | ((with_reducible apply fx_kp (by with_reducible assumption) ?h); (case h => walk_at "g_fx")))
local macro_rules | `(tactic| walk_at "g_st") => `(tactic| first
  | with_reducible assumption
  | ((with_reducible apply Fx.seqT ?k (by with_reducible assumption)); (case k => walk_at "g_fx"))
  | ((with_reducible apply SqT.of ?h); (case h => walk_at "g_hp")))
local macro_rules | `(tactic| walk_at "g_sq") => `(tactic| first
  | with_reducible assumption
  | ((with_reducible apply SqL.of ?h); (case h => walk_at "g_hp"))
  | ((with_reducible apply sqL_new ?h (by with_reducible assumption)); (case h => walk_at "g_sq"))
  | ((with_reducible apply sqL_kp (by with_reducible assumption) ?h ?n); (case h => walk_at "g_sq"); (case n => walk_at "g_ni")))
local macro_rules | `(tactic| walk_at "g_kp") => `(tactic| first
  | with_reducible assumption
  | with_reducible exact Kp.refl
  | with_reducible exact Kp.wide (by with_reducible assumption)
  | ((with_reducible apply Kp.trans ?k (by with_reducible assumption)); (case k => walk_at "g_kp"))
  | ((with_reducible apply Kp.trans ?k (Kp.wide (by with_reducible assumption))); (case k => walk_at "g_kp"))
  | ((with_reducible apply Kp.trans ?k (Kp.mono (by with_reducible assumption) ?m)); (case m => simp only [List.mem_cons, List.not_mem_nil, or_false, forall_eq, true_or, or_true, List.mem_singleton, implies_true]); (case k => walk_at "g_kp"))
  | ((with_reducible apply Kp.upd ?k ?h); (case h => walk_at "g_fr"); (case k => walk_at "g_kp"))
  | ((with_reducible apply Kp.upi ?k ?h ?m); (case h => walk_at "g_hp"); (case m => simp only [List.mem_cons, true_or, or_true]); (case k => walk_at "g_kp"))
  | ((with_reducible apply Kp.upm ?k ?h ?m); (case h => walk_at "g_hp"); (case m => simp only [List.mem_cons, true_or, or_true]); (case k => walk_at "g_kp")))
local macro_rules | `(tactic| walk_at "g_old") => `(tactic| first
  | with_reducible exact Old.refl
  | ((with_reducible apply old_upd ?k); (case k => walk_at "g_old"))
  | ((with_reducible apply old_kp (by with_reducible assumption) ?k); (case k => walk_at "g_old")))
local macro_rules | `(tactic| walk_at "g_fr") => `(tactic| first
  | with_reducible assumption
  | ((with_reducible apply fr_of (by with_reducible assumption) ?o); (case o => walk_at "g_old")))
local macro_rules | `(tactic| walk_at "g_at") => `(tactic| first
  | assumption
  | exact atI_last _ _
  | exact at_zero
  | rfl)
local macro_rules | `(tactic| walk_at "g_sz") => `(tactic| first
  | assumption
  | ((with_reducible apply small_sz); (try simp only [List.length_append, List.length_cons, List.length_nil]); omega))
local macro_rules | `(tactic| walk_at "g1") => `(tactic| first
  | (with_reducible refine i_seq ?_)
  | (with_reducible refine i_set ?_)
  | ((with_reducible apply i_var ?h ?_); (case h => exact rfl))
  | (with_reducible refine i_c ?_)
  | (with_reducible refine i_ret ?_)
  | (with_reducible refine i_op ?_)
  | (with_reducible refine i_addI ?_)
  | (with_reducible refine i_I0 ?_)
  | (with_reducible refine i_ifS ?_)
  | (with_reducible refine i_test ?_)
  | (with_reducible refine i_bl ?_)
  | (with_reducible refine i_eqI ?_)
  | (with_reducible refine i_neI ?_)
  | (with_reducible refine i_eqS ?_)
  | (with_reducible refine i_neS ?_)
  | (with_reducible refine i_and ?_)
  | (with_reducible refine i_or ?_)
  | (with_reducible refine i_not ?_)
  | (with_reducible refine i_asg ?_)
  | (with_reducible refine i_drop ?_)
  | (with_reducible refine i_cons ?_)
  | (with_reducible refine i_nil ?_)
  | (with_reducible refine i_tup ?_)
  | (with_reducible refine i_lst ?_)
  | (with_reducible refine i_few (by simp only [List.length_cons, List.length_nil]; decide) ?_)
  | (with_reducible refine i_CB ?_)
  | (with_reducible refine i_call0 ?_)
  | (with_reducible refine i_call ?_)
  | (with_reducible refine i_BM ?_)
  | (with_reducible refine i_BM0 ?_)
  | (with_reducible refine i_un ?_)
  | (with_reducible refine i_U ?_)
  | (with_reducible refine i_iteT ?_)
  | (with_reducible refine i_iteF ?_)
  | (with_reducible refine i_ntT ?_)
  | (with_reducible refine i_ntF ?_)
  | (with_reducible refine i_next ?_)
  | (with_reducible refine i_retN ?_)
  | (with_reducible refine i_brk ?_)
  | (with_reducible refine i_cont ?_)
  | ((with_reducible apply i_aug ?h ?_); (case h => exact rfl))
  | (with_reducible refine i_ipI ?_)
  | (with_reducible refine i_par ?_)
  | (with_reducible refine i_two ?_)
  | (with_reducible refine i_B ?_)
  | (with_reducible refine i_andV ?_)
  | (with_reducible refine i_orV ?_)
  | (with_reducible refine i_notV ?_)
  | (with_reducible refine i_ifE ?_)
  | (with_reducible refine i_chain ?_)
  | (with_reducible refine i_forL ?_)
  | (with_reducible refine i_forR ?_)
  | (with_reducible refine i_lcL ?_)
  | (with_reducible refine i_lcR ?_)
  | ((with_reducible refine i_wipe ?e ?_); (case e => rfl))
  | (with_reducible refine i_yes ?_)
  | ((with_reducible apply i_tyL ?h ?_); (case h => walk_at "g_sq"))
  | ((with_reducible apply i_app ?h ?g ?_); (case h => walk_at "g_hp"); (case g => walk_at "g_sz"))
  | ((with_reducible apply i_lenO ?h ?g ?_); (case h => walk_at "g_hp"); (case g => exact rfl))
  | ((with_reducible apply i_lenL ?h ?_); (case h => walk_at "g_sq"))
  | ((with_reducible apply i_lenT ?h ?_); (case h => walk_at "g_st"))
  | ((with_reducible apply i_gTup ?h ?g ?_); (case h => walk_at "g_st"); (case g => rfl))
  | ((with_reducible apply i_setL ?h ?g ?_); (case h => walk_at "g_hp"); (case g => first | (simp only [List.length_append, List.length_cons, List.length_nil]; exact ix_last _) | (simp only [List.length_cons]; exact ix_zero _) | rfl))
  | (with_reducible refine i_gCons ?_)
  | (with_reducible refine i_gNil ?_)
  | (with_reducible refine i_gName ?_)
  | (with_reducible refine i_gSub ?_)
  | (with_reducible refine i_revL ?_)
  | ((with_reducible apply i_revd ?h ?g); (case h => walk_at "g_sq"))
  | ((with_reducible apply i_ins0 ?h ?g ?k); (case h => walk_at "g_hp"); (case g => walk_at "g_sz"))
  | ((with_reducible apply i_ixS (by with_reducible assumption) ?k ?g ?_); (case k => walk_at "g_fx"); (case g => walk_at "g_at"))
  | ((with_reducible apply i_ixO ?h ?g ?_); (case h => walk_at "g_hp"); (case g => walk_at "g_at"))
  | ((with_reducible apply i_ixL ?h ?g ?_); (case h => walk_at "g_sq"); (case g => walk_at "g_at"))
  | (with_reducible refine i_abs ?_)
  | (with_reducible refine i_max2 ?_)
  | (with_reducible refine i_min2 ?_)
  | (with_reducible refine i_pw6 ?_)
  | (with_reducible refine i_pw16 ?_)
  | (with_reducible refine i_pw18 ?_)
  | (with_reducible refine i_pw58 ?_)
  | (with_reducible refine i_pw59 ?_)
  | (with_reducible refine i_pw60 ?_)
  | (with_reducible refine i_pw61 ?_)
  | ((with_reducible refine i_mod ?c ?_); (case c => omega))
  | ((with_reducible refine i_div ?c ?d ?_); (case c => omega); (case d => omega))
  | ((with_reducible refine i_dm ?c ?d ?_); (case c => omega); (case d => omega))
  | ((with_reducible apply i_listL ?h ?g); (case h => walk_at "g_sq"))
  | ((with_reducible apply i_listT ?h ?g); (case h => walk_at "g_st"))
  | (with_reducible refine i_isNn ?_)
  | (with_reducible refine i_isNr ?_)
  | (with_reducible refine i_isNi ?_)
  | (with_reducible refine i_notNn ?_)
  | (with_reducible refine i_notNr ?_)
  | (with_reducible refine i_notNi ?_)
  | (with_reducible refine i_meth ?_)
  | (with_reducible refine i_methD ?_)
  | ((with_reducible apply i_methR ?h ?g ?_); (case h => walk_at "g_hp"); (case g => exact rfl))
  | (walk_at "g_own")
  | (with_reducible refine i_methW ?_)
  | ((with_reducible apply i_methWR ?h ?g ?_); (case h => walk_at "g_hp"); (case g => exact rfl))
  | ((with_reducible apply i_lens ?h ?g ?_); (case h => exact rfl); (case g => exact rfl))
  | (with_reducible refine i_kw ?_)
  | (with_reducible refine i_mk ?_)
  | (with_reducible refine i_mkD ?_)
  | (with_reducible refine i_mkK ?_)
  | (with_reducible refine i_fld ?_)
  | ((with_reducible apply i_fldR ?h ?c ?n ?g ?_); (case h => walk_at "g_hp"); (case c => with_reducible assumption); (case n => with_reducible assumption); (case g => exact rfl))
  | (with_reducible refine i_fldS ?_)
  | ((with_reducible apply i_fldSR ?h ?c ?n ?g ?_); (case h => walk_at "g_hp"); (case c => with_reducible assumption); (case n => with_reducible assumption); (case g => exact fs_few (by rfl)))
  | (with_reducible refine i_gCut ?_)
  | (with_reducible refine i_sl ?_)
  | (with_reducible refine i_part ?_)
  | (with_reducible refine i_partI ?_)
  | (with_reducible refine i_noPart ?_)
  | ((with_reducible apply i_slL ?h ?_); (case h => walk_at "g_sq"))
  | (with_reducible refine i_forZ ?_)
  | (with_reducible refine i_lcZ ?_)
  | ((with_reducible apply i_addL ?h ?g ?z ?_); (case h => walk_at "g_hp"); (case g => walk_at "g_hp"); (case z => (try simp only [List.length_append, List.length_cons, List.length_nil, List.length_map]); omega))
  | ((with_reducible refine i_mulI ?c ?_); (case c => first | exact Or.inl ⟨by omega, by omega⟩ | exact Or.inr ⟨by omega, by omega⟩)))
local macro_rules | `(tactic| walk_at "gr") => `(tactic| first | ((walk_at "g1"); (walk_at "gr")) | skip)
local macro_rules | `(tactic| walk_at "gs") => `(tactic| (walk_at "gr"))

def top (i : Nat) : Stmt := PySem.Challenge.pw_forkthrift_k42_whole_stores_by_deeds.main.body.getD i (.Pass ⟨0, 0, 0, 0⟩)
abbrev s_wall : Stmt := top 0
abbrev s_is_number : Stmt := top 12
abbrev s_is_whole : Stmt := top 13
abbrev s_is_size : Stmt := top 14
abbrev s_is_run : Stmt := top 15
abbrev s_are_runs : Stmt := top 16
abbrev s_joined : Stmt := top 17
abbrev s_cut_out : Stmt := top 18
abbrev s_want_size : Stmt := top 20
abbrev s_want_number : Stmt := top 21
abbrev s_want_cell : Stmt := top 22
abbrev s_want_stretch : Stmt := top 23
abbrev s_Memory_init : Stmt := inClass (top 24) 0
abbrev s_Memory_size : Stmt := inClass (top 24) 1
abbrev s_Memory_at : Stmt := inClass (top 24) 2
abbrev s_Memory_runs : Stmt := inClass (top 24) 3
abbrev s_Memory_lay : Stmt := inClass (top 24) 4
abbrev s_Memory_put : Stmt := inClass (top 24) 5
abbrev s_Memory_fill : Stmt := inClass (top 24) 6
abbrev s_Memory_bring : Stmt := inClass (top 24) 7
abbrev s_Memory_copied : Stmt := inClass (top 24) 8
abbrev s_Memory_eq : Stmt := inClass (top 24) 9
abbrev s_Memory_len : Stmt := inClass (top 24) 10
abbrev s_Memory_repr : Stmt := inClass (top 24) 11
abbrev s_memory_of : Stmt := top 25
abbrev s_is_count : Stmt := top 28
abbrev s_Ties_init : Stmt := inClass (top 29) 0
abbrev s_Ties_ever : Stmt := inClass (top 29) 1
abbrev s_Ties_living : Stmt := inClass (top 29) 2
abbrev s_Ties_free : Stmt := inClass (top 29) 3
abbrev s_Ties_rows : Stmt := inClass (top 29) 4
abbrev s_Ties_lives : Stmt := inClass (top 29) 5
abbrev s_Ties_has : Stmt := inClass (top 29) 6
abbrev s_Ties_tied : Stmt := inClass (top 29) 7
abbrev s_Ties_way : Stmt := inClass (top 29) 8
abbrev s_Ties_spread : Stmt := inClass (top 29) 9
abbrev s_Ties_fork : Stmt := inClass (top 29) 10
abbrev s_Ties_end : Stmt := inClass (top 29) 11
abbrev s_Ties_may_go : Stmt := inClass (top 29) 12
abbrev s_Ties_taken_out : Stmt := inClass (top 29) 13
abbrev s_Ties_copied : Stmt := inClass (top 29) 14
abbrev s_Ties_eq : Stmt := inClass (top 29) 15
abbrev s_Ties_told : Stmt := inClass (top 29) 16
abbrev s_Ties_len : Stmt := inClass (top 29) 17
abbrev s_made : Stmt := top 30
abbrev s_Store_init : Stmt := inClass (top 32) 0
abbrev s_Store_size : Stmt := inClass (top 32) 1
abbrev s_Store_ties : Stmt := inClass (top 32) 2
abbrev s_Store_living : Stmt := inClass (top 32) 3
abbrev s_Store_own : Stmt := inClass (top 32) 4
abbrev s_Store_memory : Stmt := inClass (top 32) 5
abbrev s_Store_at : Stmt := inClass (top 32) 6
abbrev s_Store_fork : Stmt := inClass (top 32) 7
abbrev s_Store_end : Stmt := inClass (top 32) 8
abbrev s_Store_put : Stmt := inClass (top 32) 9
abbrev s_Store_fill : Stmt := inClass (top 32) 10
abbrev s_Store_bring : Stmt := inClass (top 32) 11
abbrev s_Store_all_columns : Stmt := inClass (top 32) 12
abbrev s_Store_cost : Stmt := inClass (top 32) 13
abbrev s_Store_keepings : Stmt := inClass (top 32) 14
abbrev s_Store_kept : Stmt := inClass (top 32) 15
abbrev s_Store_sure : Stmt := inClass (top 32) 16
abbrev s_Store_held : Stmt := inClass (top 32) 17
abbrev s_Store_copied : Stmt := inClass (top 32) 18
abbrev s_Store_eq : Stmt := inClass (top 32) 19
abbrev s_Store_len : Stmt := inClass (top 32) 20
abbrev s_store_of : Stmt := top 33
abbrev s_law_pot : Stmt := top 35
abbrev s_law_take : Stmt := top 36
abbrev s_law_among : Stmt := top 37
abbrev s_law_wide : Stmt := top 38
abbrev s_law_number : Stmt := top 39
abbrev s_law_part : Stmt := top 40
abbrev s_law_joined : Stmt := top 41
abbrev s_law_with : Stmt := top 42
abbrev s_law_model : Stmt := top 43
abbrev s_law_forked : Stmt := top 44
abbrev s_law_dropped : Stmt := top 45
abbrev s_law_ended : Stmt := top 46
abbrev s_law_pairs : Stmt := top 47
abbrev s_law_loose : Stmt := top 48
abbrev s_law_spot : Stmt := top 49
abbrev s_law_written : Stmt := top 50
abbrev s_law_deed : Stmt := top 51
abbrev s_law_stands : Stmt := top 52
abbrev s_law_own : Stmt := top 53
abbrev s_law_nothing_told : Stmt := top 54
abbrev s_law : Stmt := top 55
def tyNames : List String := ["NoneType", "int", "bool", "str", "list", "tuple", "dict"]
theorem kit_other {K : PySem.W.Frag} {C : Addr} (hc : PySem.W.isClsIn K C = true) (ht : PySem.W.typeIn K (.ref C) = some (.type "type")) {n : String} (h : PySem.W.subIn K (.type n) (.ref C) = some false) : PySem.W.kitOne K (.type n) (.ref C) = some false := by
  unfold PySem.W.kitOne PySem.W.kitCls
  unfold PySem.W.isClsIn at hc
  rw [if_neg (by simp)]
  simp only [hc, ht, h, beq_self_eq_true, Bool.and_self, if_true]
theorem kit_me {K : PySem.W.Frag} {C : Addr} : PySem.W.kitOne K (.ref C) (.ref C) = some true := by
  unfold PySem.W.kitOne
  rw [if_pos (by simp)]
/-- what the top leaves -/
structure Txt (K : PySem.W.Frag) (mg : Str → Option Value) where
  c_Memory : Addr
  cl_Memory : Cls K c_Memory
  mg_Memory : mg "Memory" = some (.ref c_Memory)
  na_Memory_pairs : NoAttr K c_Memory "pairs"
  na_Memory_wide : NoAttr K c_Memory "wide"
  ic_Memory : C8.InsC K c_Memory
  ot_Memory : ∀ n ∈ tyNames, PySem.W.kitOne K (.type n) (.ref c_Memory) = some false
  ne_Memory : PySem.W.findIn K (.ref c_Memory) "__ne__" = some (some (.builtin "object.__ne__"))
  c_Ties : Addr
  cl_Ties : Cls K c_Ties
  mg_Ties : mg "Ties" = some (.ref c_Ties)
  na_Ties_near : NoAttr K c_Ties "near"
  na_Ties_own_ever : NoAttr K c_Ties "own_ever"
  na_Ties_own_living : NoAttr K c_Ties "own_living"
  ic_Ties : C8.InsC K c_Ties
  ot_Ties : ∀ n ∈ tyNames, PySem.W.kitOne K (.type n) (.ref c_Ties) = some false
  ne_Ties : PySem.W.findIn K (.ref c_Ties) "__ne__" = some (some (.builtin "object.__ne__"))
  c_Store : Addr
  cl_Store : Cls K c_Store
  mg_Store : mg "Store" = some (.ref c_Store)
  na_Store_kept_by_world : NoAttr K c_Store "kept_by_world"
  na_Store_own_size : NoAttr K c_Store "own_size"
  na_Store_own_ties : NoAttr K c_Store "own_ties"
  ic_Store : C8.InsC K c_Store
  ot_Store : ∀ n ∈ tyNames, PySem.W.kitOne K (.type n) (.ref c_Store) = some false
  ne_Store : PySem.W.findIn K (.ref c_Store) "__ne__" = some (some (.builtin "object.__ne__"))
  a_wall : Addr
  d_wall : FuncData
  F_wall : FunD K "_wall" "_wall" (defArgs s_wall) (defBody s_wall) (defScope s_wall) [] ([] : List (Str × V)) a_wall d_wall
  m_wall : mg "_wall" = some (.ref a_wall)
  b_wall : BindsD K d_wall ["k"] []
  a_is_number : Addr
  d_is_number : FuncData
  F_is_number : FunD K "is_number" "is_number" (defArgs s_is_number) (defBody s_is_number) (defScope s_is_number) [] ([] : List (Str × V)) a_is_number d_is_number
  m_is_number : mg "is_number" = some (.ref a_is_number)
  b_is_number : BindsD K d_is_number ["thing"] []
  a_is_whole : Addr
  d_is_whole : FuncData
  F_is_whole : FunD K "is_whole" "is_whole" (defArgs s_is_whole) (defBody s_is_whole) (defScope s_is_whole) [] ([] : List (Str × V)) a_is_whole d_is_whole
  m_is_whole : mg "is_whole" = some (.ref a_is_whole)
  b_is_whole : BindsD K d_is_whole ["thing", "least", "most"] []
  a_is_size : Addr
  d_is_size : FuncData
  F_is_size : FunD K "is_size" "is_size" (defArgs s_is_size) (defBody s_is_size) (defScope s_is_size) [] ([] : List (Str × V)) a_is_size d_is_size
  m_is_size : mg "is_size" = some (.ref a_is_size)
  b_is_size : BindsD K d_is_size ["thing"] []
  a_is_run : Addr
  d_is_run : FuncData
  F_is_run : FunD K "is_run" "is_run" (defArgs s_is_run) (defBody s_is_run) (defScope s_is_run) [] ([] : List (Str × V)) a_is_run d_is_run
  m_is_run : mg "is_run" = some (.ref a_is_run)
  b_is_run : BindsD K d_is_run ["thing"] []
  a_are_runs : Addr
  d_are_runs : FuncData
  F_are_runs : FunD K "are_runs" "are_runs" (defArgs s_are_runs) (defBody s_are_runs) (defScope s_are_runs) [] ([] : List (Str × V)) a_are_runs d_are_runs
  m_are_runs : mg "are_runs" = some (.ref a_are_runs)
  b_are_runs : BindsD K d_are_runs ["thing", "size"] []
  a_joined : Addr
  d_joined : FuncData
  F_joined : FunD K "joined" "joined" (defArgs s_joined) (defBody s_joined) (defScope s_joined) [] ([] : List (Str × V)) a_joined d_joined
  m_joined : mg "joined" = some (.ref a_joined)
  b_joined : BindsD K d_joined ["pairs"] []
  a_cut_out : Addr
  d_cut_out : FuncData
  F_cut_out : FunD K "cut_out" "cut_out" (defArgs s_cut_out) (defBody s_cut_out) (defScope s_cut_out) [] ([] : List (Str × V)) a_cut_out d_cut_out
  m_cut_out : mg "cut_out" = some (.ref a_cut_out)
  b_cut_out : BindsD K d_cut_out ["pairs", "begin", "end"] []
  a_want_size : Addr
  d_want_size : FuncData
  F_want_size : FunD K "want_size" "want_size" (defArgs s_want_size) (defBody s_want_size) (defScope s_want_size) [] ([] : List (Str × V)) a_want_size d_want_size
  m_want_size : mg "want_size" = some (.ref a_want_size)
  b_want_size : BindsD K d_want_size ["thing"] []
  a_want_number : Addr
  d_want_number : FuncData
  F_want_number : FunD K "want_number" "want_number" (defArgs s_want_number) (defBody s_want_number) (defScope s_want_number) [] ([] : List (Str × V)) a_want_number d_want_number
  m_want_number : mg "want_number" = some (.ref a_want_number)
  b_want_number : BindsD K d_want_number ["thing"] []
  a_want_cell : Addr
  d_want_cell : FuncData
  F_want_cell : FunD K "want_cell" "want_cell" (defArgs s_want_cell) (defBody s_want_cell) (defScope s_want_cell) [] ([] : List (Str × V)) a_want_cell d_want_cell
  m_want_cell : mg "want_cell" = some (.ref a_want_cell)
  b_want_cell : BindsD K d_want_cell ["thing", "size"] []
  a_want_stretch : Addr
  d_want_stretch : FuncData
  F_want_stretch : FunD K "want_stretch" "want_stretch" (defArgs s_want_stretch) (defBody s_want_stretch) (defScope s_want_stretch) [] ([] : List (Str × V)) a_want_stretch d_want_stretch
  m_want_stretch : mg "want_stretch" = some (.ref a_want_stretch)
  b_want_stretch : BindsD K d_want_stretch ["begin", "end", "size"] []
  a_Memory_init : Addr
  d_Memory_init : FuncData
  F_Memory_init : FunD K "__init__" "Memory.__init__" (defArgs s_Memory_init) (defBody s_Memory_init) (defScope s_Memory_init) [] ([("number", V.int 0)] : List (Str × V)) a_Memory_init d_Memory_init
  mk_Memory : Mk K c_Memory a_Memory_init
  b_Memory_init : BindsD K d_Memory_init ["self", "size", "number"] [V.int 0]
  a_Memory_size : Addr
  d_Memory_size : FuncData
  F_Memory_size : FunD K "size" "Memory.size" (defArgs s_Memory_size) (defBody s_Memory_size) (defScope s_Memory_size) [] ([] : List (Str × V)) a_Memory_size d_Memory_size
  me_Memory_size : Meth K c_Memory "size" a_Memory_size
  b_Memory_size : BindsD K d_Memory_size ["self"] []
  a_Memory_at : Addr
  d_Memory_at : FuncData
  F_Memory_at : FunD K "at" "Memory.at" (defArgs s_Memory_at) (defBody s_Memory_at) (defScope s_Memory_at) [] ([] : List (Str × V)) a_Memory_at d_Memory_at
  me_Memory_at : Meth K c_Memory "at" a_Memory_at
  b_Memory_at : BindsD K d_Memory_at ["self", "cell"] []
  a_Memory_runs : Addr
  d_Memory_runs : FuncData
  F_Memory_runs : FunD K "runs" "Memory.runs" (defArgs s_Memory_runs) (defBody s_Memory_runs) (defScope s_Memory_runs) [] ([] : List (Str × V)) a_Memory_runs d_Memory_runs
  me_Memory_runs : Meth K c_Memory "runs" a_Memory_runs
  b_Memory_runs : BindsD K d_Memory_runs ["self"] []
  a_Memory_lay : Addr
  d_Memory_lay : FuncData
  F_Memory_lay : FunD K "lay" "Memory.lay" (defArgs s_Memory_lay) (defBody s_Memory_lay) (defScope s_Memory_lay) [] ([] : List (Str × V)) a_Memory_lay d_Memory_lay
  me_Memory_lay : Meth K c_Memory "lay" a_Memory_lay
  b_Memory_lay : BindsD K d_Memory_lay ["self", "begin", "pairs", "end"] []
  a_Memory_put : Addr
  d_Memory_put : FuncData
  F_Memory_put : FunD K "put" "Memory.put" (defArgs s_Memory_put) (defBody s_Memory_put) (defScope s_Memory_put) [] ([] : List (Str × V)) a_Memory_put d_Memory_put
  me_Memory_put : Meth K c_Memory "put" a_Memory_put
  b_Memory_put : BindsD K d_Memory_put ["self", "cell", "number"] []
  a_Memory_fill : Addr
  d_Memory_fill : FuncData
  F_Memory_fill : FunD K "fill" "Memory.fill" (defArgs s_Memory_fill) (defBody s_Memory_fill) (defScope s_Memory_fill) [] ([] : List (Str × V)) a_Memory_fill d_Memory_fill
  me_Memory_fill : Meth K c_Memory "fill" a_Memory_fill
  b_Memory_fill : BindsD K d_Memory_fill ["self", "begin", "end", "number"] []
  a_Memory_bring : Addr
  d_Memory_bring : FuncData
  F_Memory_bring : FunD K "bring" "Memory.bring" (defArgs s_Memory_bring) (defBody s_Memory_bring) (defScope s_Memory_bring) [] ([("source", V.non)] : List (Str × V)) a_Memory_bring d_Memory_bring
  me_Memory_bring : Meth K c_Memory "bring" a_Memory_bring
  b_Memory_bring : BindsD K d_Memory_bring ["self", "begin", "end", "to", "source"] [V.non]
  a_Memory_copied : Addr
  d_Memory_copied : FuncData
  F_Memory_copied : FunD K "copied" "Memory.copied" (defArgs s_Memory_copied) (defBody s_Memory_copied) (defScope s_Memory_copied) [] ([] : List (Str × V)) a_Memory_copied d_Memory_copied
  me_Memory_copied : Meth K c_Memory "copied" a_Memory_copied
  b_Memory_copied : BindsD K d_Memory_copied ["self"] []
  a_Memory_eq : Addr
  d_Memory_eq : FuncData
  F_Memory_eq : FunD K "__eq__" "Memory.__eq__" (defArgs s_Memory_eq) (defBody s_Memory_eq) (defScope s_Memory_eq) [] ([] : List (Str × V)) a_Memory_eq d_Memory_eq
  me_Memory_eq : Meth K c_Memory "__eq__" a_Memory_eq
  b_Memory_eq : BindsD K d_Memory_eq ["self", "other"] []
  a_Memory_len : Addr
  d_Memory_len : FuncData
  F_Memory_len : FunD K "__len__" "Memory.__len__" (defArgs s_Memory_len) (defBody s_Memory_len) (defScope s_Memory_len) [] ([] : List (Str × V)) a_Memory_len d_Memory_len
  me_Memory_len : Meth K c_Memory "__len__" a_Memory_len
  b_Memory_len : BindsD K d_Memory_len ["self"] []
  a_Memory_repr : Addr
  d_Memory_repr : FuncData
  F_Memory_repr : FunD K "__repr__" "Memory.__repr__" (defArgs s_Memory_repr) (defBody s_Memory_repr) (defScope s_Memory_repr) [] ([] : List (Str × V)) a_Memory_repr d_Memory_repr
  me_Memory_repr : Meth K c_Memory "__repr__" a_Memory_repr
  b_Memory_repr : BindsD K d_Memory_repr ["self"] []
  a_memory_of : Addr
  d_memory_of : FuncData
  F_memory_of : FunD K "memory_of" "memory_of" (defArgs s_memory_of) (defBody s_memory_of) (defScope s_memory_of) [] ([] : List (Str × V)) a_memory_of d_memory_of
  m_memory_of : mg "memory_of" = some (.ref a_memory_of)
  b_memory_of : BindsD K d_memory_of ["runs"] []
  a_is_count : Addr
  d_is_count : FuncData
  F_is_count : FunD K "is_count" "is_count" (defArgs s_is_count) (defBody s_is_count) (defScope s_is_count) [] ([] : List (Str × V)) a_is_count d_is_count
  m_is_count : mg "is_count" = some (.ref a_is_count)
  b_is_count : BindsD K d_is_count ["thing"] []
  a_Ties_init : Addr
  d_Ties_init : FuncData
  F_Ties_init : FunD K "__init__" "Ties.__init__" (defArgs s_Ties_init) (defBody s_Ties_init) (defScope s_Ties_init) [] ([] : List (Str × V)) a_Ties_init d_Ties_init
  mk_Ties : Mk K c_Ties a_Ties_init
  b_Ties_init : BindsD K d_Ties_init ["self"] []
  a_Ties_ever : Addr
  d_Ties_ever : FuncData
  F_Ties_ever : FunD K "ever" "Ties.ever" (defArgs s_Ties_ever) (defBody s_Ties_ever) (defScope s_Ties_ever) [] ([] : List (Str × V)) a_Ties_ever d_Ties_ever
  me_Ties_ever : Meth K c_Ties "ever" a_Ties_ever
  b_Ties_ever : BindsD K d_Ties_ever ["self"] []
  a_Ties_living : Addr
  d_Ties_living : FuncData
  F_Ties_living : FunD K "living" "Ties.living" (defArgs s_Ties_living) (defBody s_Ties_living) (defScope s_Ties_living) [] ([] : List (Str × V)) a_Ties_living d_Ties_living
  me_Ties_living : Meth K c_Ties "living" a_Ties_living
  b_Ties_living : BindsD K d_Ties_living ["self"] []
  a_Ties_free : Addr
  d_Ties_free : FuncData
  F_Ties_free : FunD K "free" "Ties.free" (defArgs s_Ties_free) (defBody s_Ties_free) (defScope s_Ties_free) [] ([] : List (Str × V)) a_Ties_free d_Ties_free
  me_Ties_free : Meth K c_Ties "free" a_Ties_free
  b_Ties_free : BindsD K d_Ties_free ["self"] []
  a_Ties_rows : Addr
  d_Ties_rows : FuncData
  F_Ties_rows : FunD K "rows" "Ties.rows" (defArgs s_Ties_rows) (defBody s_Ties_rows) (defScope s_Ties_rows) [] ([] : List (Str × V)) a_Ties_rows d_Ties_rows
  me_Ties_rows : Meth K c_Ties "rows" a_Ties_rows
  b_Ties_rows : BindsD K d_Ties_rows ["self"] []
  a_Ties_lives : Addr
  d_Ties_lives : FuncData
  F_Ties_lives : FunD K "lives" "Ties.lives" (defArgs s_Ties_lives) (defBody s_Ties_lives) (defScope s_Ties_lives) [] ([] : List (Str × V)) a_Ties_lives d_Ties_lives
  me_Ties_lives : Meth K c_Ties "lives" a_Ties_lives
  b_Ties_lives : BindsD K d_Ties_lives ["self", "thing"] []
  a_Ties_has : Addr
  d_Ties_has : FuncData
  F_Ties_has : FunD K "has" "Ties.has" (defArgs s_Ties_has) (defBody s_Ties_has) (defScope s_Ties_has) [] ([] : List (Str × V)) a_Ties_has d_Ties_has
  me_Ties_has : Meth K c_Ties "has" a_Ties_has
  b_Ties_has : BindsD K d_Ties_has ["self", "thing"] []
  a_Ties_tied : Addr
  d_Ties_tied : FuncData
  F_Ties_tied : FunD K "tied" "Ties.tied" (defArgs s_Ties_tied) (defBody s_Ties_tied) (defScope s_Ties_tied) [] ([] : List (Str × V)) a_Ties_tied d_Ties_tied
  me_Ties_tied : Meth K c_Ties "tied" a_Ties_tied
  b_Ties_tied : BindsD K d_Ties_tied ["self", "world"] []
  a_Ties_way : Addr
  d_Ties_way : FuncData
  F_Ties_way : FunD K "way" "Ties.way" (defArgs s_Ties_way) (defBody s_Ties_way) (defScope s_Ties_way) [] ([] : List (Str × V)) a_Ties_way d_Ties_way
  me_Ties_way : Meth K c_Ties "way" a_Ties_way
  b_Ties_way : BindsD K d_Ties_way ["self", "one", "other"] []
  a_Ties_spread : Addr
  d_Ties_spread : FuncData
  F_Ties_spread : FunD K "spread" "Ties.spread" (defArgs s_Ties_spread) (defBody s_Ties_spread) (defScope s_Ties_spread) [] ([] : List (Str × V)) a_Ties_spread d_Ties_spread
  me_Ties_spread : Meth K c_Ties "spread" a_Ties_spread
  b_Ties_spread : BindsD K d_Ties_spread ["self", "goal"] []
  a_Ties_fork : Addr
  d_Ties_fork : FuncData
  F_Ties_fork : FunD K "fork" "Ties.fork" (defArgs s_Ties_fork) (defBody s_Ties_fork) (defScope s_Ties_fork) [] ([] : List (Str × V)) a_Ties_fork d_Ties_fork
  me_Ties_fork : Meth K c_Ties "fork" a_Ties_fork
  b_Ties_fork : BindsD K d_Ties_fork ["self", "world"] []
  a_Ties_end : Addr
  d_Ties_end : FuncData
  F_Ties_end : FunD K "end" "Ties.end" (defArgs s_Ties_end) (defBody s_Ties_end) (defScope s_Ties_end) [] ([] : List (Str × V)) a_Ties_end d_Ties_end
  me_Ties_end : Meth K c_Ties "end" a_Ties_end
  b_Ties_end : BindsD K d_Ties_end ["self", "world"] []
  a_Ties_may_go : Addr
  d_Ties_may_go : FuncData
  F_Ties_may_go : FunD K "may_go" "Ties.may_go" (defArgs s_Ties_may_go) (defBody s_Ties_may_go) (defScope s_Ties_may_go) [] ([] : List (Str × V)) a_Ties_may_go d_Ties_may_go
  me_Ties_may_go : Meth K c_Ties "may_go" a_Ties_may_go
  b_Ties_may_go : BindsD K d_Ties_may_go ["self", "world"] []
  a_Ties_taken_out : Addr
  d_Ties_taken_out : FuncData
  F_Ties_taken_out : FunD K "taken_out" "Ties.taken_out" (defArgs s_Ties_taken_out) (defBody s_Ties_taken_out) (defScope s_Ties_taken_out) [] ([] : List (Str × V)) a_Ties_taken_out d_Ties_taken_out
  me_Ties_taken_out : Meth K c_Ties "taken_out" a_Ties_taken_out
  b_Ties_taken_out : BindsD K d_Ties_taken_out ["self", "world"] []
  a_Ties_copied : Addr
  d_Ties_copied : FuncData
  F_Ties_copied : FunD K "copied" "Ties.copied" (defArgs s_Ties_copied) (defBody s_Ties_copied) (defScope s_Ties_copied) [] ([] : List (Str × V)) a_Ties_copied d_Ties_copied
  me_Ties_copied : Meth K c_Ties "copied" a_Ties_copied
  b_Ties_copied : BindsD K d_Ties_copied ["self"] []
  a_Ties_eq : Addr
  d_Ties_eq : FuncData
  F_Ties_eq : FunD K "__eq__" "Ties.__eq__" (defArgs s_Ties_eq) (defBody s_Ties_eq) (defScope s_Ties_eq) [] ([] : List (Str × V)) a_Ties_eq d_Ties_eq
  me_Ties_eq : Meth K c_Ties "__eq__" a_Ties_eq
  b_Ties_eq : BindsD K d_Ties_eq ["self", "other"] []
  a_Ties_told : Addr
  d_Ties_told : FuncData
  F_Ties_told : FunD K "told" "Ties.told" (defArgs s_Ties_told) (defBody s_Ties_told) (defScope s_Ties_told) [] ([] : List (Str × V)) a_Ties_told d_Ties_told
  me_Ties_told : Meth K c_Ties "told" a_Ties_told
  b_Ties_told : BindsD K d_Ties_told ["self"] []
  a_Ties_len : Addr
  d_Ties_len : FuncData
  F_Ties_len : FunD K "__len__" "Ties.__len__" (defArgs s_Ties_len) (defBody s_Ties_len) (defScope s_Ties_len) [] ([] : List (Str × V)) a_Ties_len d_Ties_len
  me_Ties_len : Meth K c_Ties "__len__" a_Ties_len
  b_Ties_len : BindsD K d_Ties_len ["self"] []
  a_made : Addr
  d_made : FuncData
  F_made : FunD K "made" "made" (defArgs s_made) (defBody s_made) (defScope s_made) [] ([] : List (Str × V)) a_made d_made
  m_made : mg "made" = some (.ref a_made)
  b_made : BindsD K d_made ["ever", "living", "worlds", "rows"] []
  a_Store_init : Addr
  d_Store_init : FuncData
  F_Store_init : FunD K "__init__" "Store.__init__" (defArgs s_Store_init) (defBody s_Store_init) (defScope s_Store_init) [] ([] : List (Str × V)) a_Store_init d_Store_init
  mk_Store : Mk K c_Store a_Store_init
  b_Store_init : BindsD K d_Store_init ["self", "size"] []
  a_Store_size : Addr
  d_Store_size : FuncData
  F_Store_size : FunD K "size" "Store.size" (defArgs s_Store_size) (defBody s_Store_size) (defScope s_Store_size) [] ([] : List (Str × V)) a_Store_size d_Store_size
  me_Store_size : Meth K c_Store "size" a_Store_size
  b_Store_size : BindsD K d_Store_size ["self"] []
  a_Store_ties : Addr
  d_Store_ties : FuncData
  F_Store_ties : FunD K "ties" "Store.ties" (defArgs s_Store_ties) (defBody s_Store_ties) (defScope s_Store_ties) [] ([] : List (Str × V)) a_Store_ties d_Store_ties
  me_Store_ties : Meth K c_Store "ties" a_Store_ties
  b_Store_ties : BindsD K d_Store_ties ["self"] []
  a_Store_living : Addr
  d_Store_living : FuncData
  F_Store_living : FunD K "living" "Store.living" (defArgs s_Store_living) (defBody s_Store_living) (defScope s_Store_living) [] ([] : List (Str × V)) a_Store_living d_Store_living
  me_Store_living : Meth K c_Store "living" a_Store_living
  b_Store_living : BindsD K d_Store_living ["self"] []
  a_Store_own : Addr
  d_Store_own : FuncData
  F_Store_own : FunD K "own" "Store.own" (defArgs s_Store_own) (defBody s_Store_own) (defScope s_Store_own) [] ([] : List (Str × V)) a_Store_own d_Store_own
  me_Store_own : Meth K c_Store "own" a_Store_own
  b_Store_own : BindsD K d_Store_own ["self", "world"] []
  a_Store_memory : Addr
  d_Store_memory : FuncData
  F_Store_memory : FunD K "memory" "Store.memory" (defArgs s_Store_memory) (defBody s_Store_memory) (defScope s_Store_memory) [] ([] : List (Str × V)) a_Store_memory d_Store_memory
  me_Store_memory : Meth K c_Store "memory" a_Store_memory
  b_Store_memory : BindsD K d_Store_memory ["self", "world"] []
  a_Store_at : Addr
  d_Store_at : FuncData
  F_Store_at : FunD K "at" "Store.at" (defArgs s_Store_at) (defBody s_Store_at) (defScope s_Store_at) [] ([] : List (Str × V)) a_Store_at d_Store_at
  me_Store_at : Meth K c_Store "at" a_Store_at
  b_Store_at : BindsD K d_Store_at ["self", "world", "cell"] []
  a_Store_fork : Addr
  d_Store_fork : FuncData
  F_Store_fork : FunD K "fork" "Store.fork" (defArgs s_Store_fork) (defBody s_Store_fork) (defScope s_Store_fork) [] ([] : List (Str × V)) a_Store_fork d_Store_fork
  me_Store_fork : Meth K c_Store "fork" a_Store_fork
  b_Store_fork : BindsD K d_Store_fork ["self", "world"] []
  a_Store_end : Addr
  d_Store_end : FuncData
  F_Store_end : FunD K "end" "Store.end" (defArgs s_Store_end) (defBody s_Store_end) (defScope s_Store_end) [] ([] : List (Str × V)) a_Store_end d_Store_end
  me_Store_end : Meth K c_Store "end" a_Store_end
  b_Store_end : BindsD K d_Store_end ["self", "world"] []
  a_Store_put : Addr
  d_Store_put : FuncData
  F_Store_put : FunD K "put" "Store.put" (defArgs s_Store_put) (defBody s_Store_put) (defScope s_Store_put) [] ([] : List (Str × V)) a_Store_put d_Store_put
  me_Store_put : Meth K c_Store "put" a_Store_put
  b_Store_put : BindsD K d_Store_put ["self", "world", "cell", "number"] []
  a_Store_fill : Addr
  d_Store_fill : FuncData
  F_Store_fill : FunD K "fill" "Store.fill" (defArgs s_Store_fill) (defBody s_Store_fill) (defScope s_Store_fill) [] ([] : List (Str × V)) a_Store_fill d_Store_fill
  me_Store_fill : Meth K c_Store "fill" a_Store_fill
  b_Store_fill : BindsD K d_Store_fill ["self", "world", "begin", "end", "number"] []
  a_Store_bring : Addr
  d_Store_bring : FuncData
  F_Store_bring : FunD K "bring" "Store.bring" (defArgs s_Store_bring) (defBody s_Store_bring) (defScope s_Store_bring) [] ([("source", V.non)] : List (Str × V)) a_Store_bring d_Store_bring
  me_Store_bring : Meth K c_Store "bring" a_Store_bring
  b_Store_bring : BindsD K d_Store_bring ["self", "world", "begin", "end", "to", "source"] [V.non]
  a_Store_all_columns : Addr
  d_Store_all_columns : FuncData
  F_Store_all_columns : FunD K "all_columns" "Store.all_columns" (defArgs s_Store_all_columns) (defBody s_Store_all_columns) (defScope s_Store_all_columns) [] ([] : List (Str × V)) a_Store_all_columns d_Store_all_columns
  me_Store_all_columns : Meth K c_Store "all_columns" a_Store_all_columns
  b_Store_all_columns : BindsD K d_Store_all_columns ["self"] []
  a_Store_cost : Addr
  d_Store_cost : FuncData
  F_Store_cost : FunD K "cost" "Store.cost" (defArgs s_Store_cost) (defBody s_Store_cost) (defScope s_Store_cost) [] ([] : List (Str × V)) a_Store_cost d_Store_cost
  me_Store_cost : Meth K c_Store "cost" a_Store_cost
  b_Store_cost : BindsD K d_Store_cost ["self"] []
  a_Store_keepings : Addr
  d_Store_keepings : FuncData
  F_Store_keepings : FunD K "keepings" "Store.keepings" (defArgs s_Store_keepings) (defBody s_Store_keepings) (defScope s_Store_keepings) [] ([] : List (Str × V)) a_Store_keepings d_Store_keepings
  me_Store_keepings : Meth K c_Store "keepings" a_Store_keepings
  b_Store_keepings : BindsD K d_Store_keepings ["self"] []
  a_Store_kept : Addr
  d_Store_kept : FuncData
  F_Store_kept : FunD K "kept" "Store.kept" (defArgs s_Store_kept) (defBody s_Store_kept) (defScope s_Store_kept) [] ([] : List (Str × V)) a_Store_kept d_Store_kept
  me_Store_kept : Meth K c_Store "kept" a_Store_kept
  b_Store_kept : BindsD K d_Store_kept ["self", "world"] []
  a_Store_sure : Addr
  d_Store_sure : FuncData
  F_Store_sure : FunD K "sure" "Store.sure" (defArgs s_Store_sure) (defBody s_Store_sure) (defScope s_Store_sure) [] ([] : List (Str × V)) a_Store_sure d_Store_sure
  me_Store_sure : Meth K c_Store "sure" a_Store_sure
  b_Store_sure : BindsD K d_Store_sure ["self", "world"] []
  a_Store_held : Addr
  d_Store_held : FuncData
  F_Store_held : FunD K "held" "Store.held" (defArgs s_Store_held) (defBody s_Store_held) (defScope s_Store_held) [] ([] : List (Str × V)) a_Store_held d_Store_held
  me_Store_held : Meth K c_Store "held" a_Store_held
  b_Store_held : BindsD K d_Store_held ["self"] []
  a_Store_copied : Addr
  d_Store_copied : FuncData
  F_Store_copied : FunD K "copied" "Store.copied" (defArgs s_Store_copied) (defBody s_Store_copied) (defScope s_Store_copied) [] ([] : List (Str × V)) a_Store_copied d_Store_copied
  me_Store_copied : Meth K c_Store "copied" a_Store_copied
  b_Store_copied : BindsD K d_Store_copied ["self"] []
  a_Store_eq : Addr
  d_Store_eq : FuncData
  F_Store_eq : FunD K "__eq__" "Store.__eq__" (defArgs s_Store_eq) (defBody s_Store_eq) (defScope s_Store_eq) [] ([] : List (Str × V)) a_Store_eq d_Store_eq
  me_Store_eq : Meth K c_Store "__eq__" a_Store_eq
  b_Store_eq : BindsD K d_Store_eq ["self", "other"] []
  a_Store_len : Addr
  d_Store_len : FuncData
  F_Store_len : FunD K "__len__" "Store.__len__" (defArgs s_Store_len) (defBody s_Store_len) (defScope s_Store_len) [] ([] : List (Str × V)) a_Store_len d_Store_len
  me_Store_len : Meth K c_Store "__len__" a_Store_len
  b_Store_len : BindsD K d_Store_len ["self"] []
  a_store_of : Addr
  d_store_of : FuncData
  F_store_of : FunD K "store_of" "store_of" (defArgs s_store_of) (defBody s_store_of) (defScope s_store_of) [] ([] : List (Str × V)) a_store_of d_store_of
  m_store_of : mg "store_of" = some (.ref a_store_of)
  b_store_of : BindsD K d_store_of ["size", "ties", "memories"] []
  a_law_pot : Addr
  d_law_pot : FuncData
  F_law_pot : FunD K "_law_pot" "_law_pot" (defArgs s_law_pot) (defBody s_law_pot) (defScope s_law_pot) [] ([] : List (Str × V)) a_law_pot d_law_pot
  m_law_pot : mg "_law_pot" = some (.ref a_law_pot)
  b_law_pot : BindsD K d_law_pot ["_law_script", "_law_k"] []
  a_law_take : Addr
  d_law_take : FuncData
  F_law_take : FunD K "_law_take" "_law_take" (defArgs s_law_take) (defBody s_law_take) (defScope s_law_take) [] ([] : List (Str × V)) a_law_take d_law_take
  m_law_take : mg "_law_take" = some (.ref a_law_take)
  b_law_take : BindsD K d_law_take ["_law_pot_here", "_law_many"] []
  a_law_among : Addr
  d_law_among : FuncData
  F_law_among : FunD K "_law_among" "_law_among" (defArgs s_law_among) (defBody s_law_among) (defScope s_law_among) [] ([] : List (Str × V)) a_law_among d_law_among
  m_law_among : mg "_law_among" = some (.ref a_law_among)
  b_law_among : BindsD K d_law_among ["_law_pot_here", "_law_some"] []
  a_law_wide : Addr
  d_law_wide : FuncData
  F_law_wide : FunD K "_law_wide" "_law_wide" (defArgs s_law_wide) (defBody s_law_wide) (defScope s_law_wide) [] ([] : List (Str × V)) a_law_wide d_law_wide
  m_law_wide : mg "_law_wide" = some (.ref a_law_wide)
  b_law_wide : BindsD K d_law_wide ["_law_pot_here"] []
  a_law_number : Addr
  d_law_number : FuncData
  F_law_number : FunD K "_law_number" "_law_number" (defArgs s_law_number) (defBody s_law_number) (defScope s_law_number) [] ([] : List (Str × V)) a_law_number d_law_number
  m_law_number : mg "_law_number" = some (.ref a_law_number)
  b_law_number : BindsD K d_law_number ["_law_pot_here"] []
  a_law_part : Addr
  d_law_part : FuncData
  F_law_part : FunD K "_law_part" "_law_part" (defArgs s_law_part) (defBody s_law_part) (defScope s_law_part) [] ([] : List (Str × V)) a_law_part d_law_part
  m_law_part : mg "_law_part" = some (.ref a_law_part)
  b_law_part : BindsD K d_law_part ["_law_row", "_law_begin", "_law_stop"] []
  a_law_joined : Addr
  d_law_joined : FuncData
  F_law_joined : FunD K "_law_joined" "_law_joined" (defArgs s_law_joined) (defBody s_law_joined) (defScope s_law_joined) [] ([] : List (Str × V)) a_law_joined d_law_joined
  m_law_joined : mg "_law_joined" = some (.ref a_law_joined)
  b_law_joined : BindsD K d_law_joined ["_law_row"] []
  a_law_with : Addr
  d_law_with : FuncData
  F_law_with : FunD K "_law_with" "_law_with" (defArgs s_law_with) (defBody s_law_with) (defScope s_law_with) [] ([] : List (Str × V)) a_law_with d_law_with
  m_law_with : mg "_law_with" = some (.ref a_law_with)
  b_law_with : BindsD K d_law_with ["_law_row", "_law_begin", "_law_part_here"] []
  a_law_model : Addr
  d_law_model : FuncData
  F_law_model : FunD K "_law_model" "_law_model" (defArgs s_law_model) (defBody s_law_model) (defScope s_law_model) [] ([] : List (Str × V)) a_law_model d_law_model
  m_law_model : mg "_law_model" = some (.ref a_law_model)
  b_law_model : BindsD K d_law_model ["_law_wide_here"] []
  a_law_forked : Addr
  d_law_forked : FuncData
  F_law_forked : FunD K "_law_forked" "_law_forked" (defArgs s_law_forked) (defBody s_law_forked) (defScope s_law_forked) [] ([] : List (Str × V)) a_law_forked d_law_forked
  m_law_forked : mg "_law_forked" = some (.ref a_law_forked)
  b_law_forked : BindsD K d_law_forked ["_law_model_here", "_law_being"] []
  a_law_dropped : Addr
  d_law_dropped : FuncData
  F_law_dropped : FunD K "_law_dropped" "_law_dropped" (defArgs s_law_dropped) (defBody s_law_dropped) (defScope s_law_dropped) [] ([] : List (Str × V)) a_law_dropped d_law_dropped
  m_law_dropped : mg "_law_dropped" = some (.ref a_law_dropped)
  b_law_dropped : BindsD K d_law_dropped ["_law_model_here", "_law_one"] []
  a_law_ended : Addr
  d_law_ended : FuncData
  F_law_ended : FunD K "_law_ended" "_law_ended" (defArgs s_law_ended) (defBody s_law_ended) (defScope s_law_ended) [] ([] : List (Str × V)) a_law_ended d_law_ended
  m_law_ended : mg "_law_ended" = some (.ref a_law_ended)
  b_law_ended : BindsD K d_law_ended ["_law_model_here", "_law_being"] []
  a_law_pairs : Addr
  d_law_pairs : FuncData
  F_law_pairs : FunD K "_law_pairs" "_law_pairs" (defArgs s_law_pairs) (defBody s_law_pairs) (defScope s_law_pairs) [] ([] : List (Str × V)) a_law_pairs d_law_pairs
  m_law_pairs : mg "_law_pairs" = some (.ref a_law_pairs)
  b_law_pairs : BindsD K d_law_pairs ["_law_model_here"] []
  a_law_loose : Addr
  d_law_loose : FuncData
  F_law_loose : FunD K "_law_loose" "_law_loose" (defArgs s_law_loose) (defBody s_law_loose) (defScope s_law_loose) [] ([] : List (Str × V)) a_law_loose d_law_loose
  m_law_loose : mg "_law_loose" = some (.ref a_law_loose)
  b_law_loose : BindsD K d_law_loose ["_law_model_here"] []
  a_law_spot : Addr
  d_law_spot : FuncData
  F_law_spot : FunD K "_law_spot" "_law_spot" (defArgs s_law_spot) (defBody s_law_spot) (defScope s_law_spot) [] ([] : List (Str × V)) a_law_spot d_law_spot
  m_law_spot : mg "_law_spot" = some (.ref a_law_spot)
  b_law_spot : BindsD K d_law_spot ["_law_pot_here", "_law_model_here"] []
  a_law_written : Addr
  d_law_written : FuncData
  F_law_written : FunD K "_law_written" "_law_written" (defArgs s_law_written) (defBody s_law_written) (defScope s_law_written) [] ([] : List (Str × V)) a_law_written d_law_written
  m_law_written : mg "_law_written" = some (.ref a_law_written)
  b_law_written : BindsD K d_law_written ["_law_pot_here", "_law_store", "_law_model_here"] []
  a_law_deed : Addr
  d_law_deed : FuncData
  F_law_deed : FunD K "_law_deed" "_law_deed" (defArgs s_law_deed) (defBody s_law_deed) (defScope s_law_deed) [] ([] : List (Str × V)) a_law_deed d_law_deed
  m_law_deed : mg "_law_deed" = some (.ref a_law_deed)
  b_law_deed : BindsD K d_law_deed ["_law_pot_here", "_law_store", "_law_model_here"] []
  a_law_stands : Addr
  d_law_stands : FuncData
  F_law_stands : FunD K "_law_stands" "_law_stands" (defArgs s_law_stands) (defBody s_law_stands) (defScope s_law_stands) [] ([] : List (Str × V)) a_law_stands d_law_stands
  m_law_stands : mg "_law_stands" = some (.ref a_law_stands)
  b_law_stands : BindsD K d_law_stands ["_law_pot_here", "_law_store", "_law_model_here"] []
  a_law_own : Addr
  d_law_own : FuncData
  F_law_own : FunD K "_law_own" "_law_own" (defArgs s_law_own) (defBody s_law_own) (defScope s_law_own) [] ([] : List (Str × V)) a_law_own d_law_own
  m_law_own : mg "_law_own" = some (.ref a_law_own)
  b_law_own : BindsD K d_law_own ["_law_pot_here", "_law_store", "_law_model_here"] []
  a_law_nothing_told : Addr
  d_law_nothing_told : FuncData
  F_law_nothing_told : FunD K "_law_nothing_told" "_law_nothing_told" (defArgs s_law_nothing_told) (defBody s_law_nothing_told) (defScope s_law_nothing_told) [] ([] : List (Str × V)) a_law_nothing_told d_law_nothing_told
  m_law_nothing_told : mg "_law_nothing_told" = some (.ref a_law_nothing_told)
  b_law_nothing_told : BindsD K d_law_nothing_told ["_law_store", "_law_model_here"] []
  a_law : Addr
  d_law : FuncData
  F_law : FunD K "law" "law" (defArgs s_law) (defBody s_law) (defScope s_law) [] ([] : List (Str × V)) a_law d_law
  m_law : mg "law" = some (.ref a_law)
  b_law : BindsD K d_law ["_law_script"] []
  kb_Memory_bring_4_source : KBnD K d_Memory_bring ["self", "begin", "end", "to", "source"] 4 ["source"] (fun vs zs => gp [0] vs [] zs)
  kb_Store_bring_5_source : KBnD K d_Store_bring ["self", "world", "begin", "end", "to", "source"] 5 ["source"] (fun vs zs => gp [0] vs [] zs)
  t_FEWEST_TIES : Tok
  g_FEWEST_TIES : mg "FEWEST_TIES" = some (.int 3 t_FEWEST_TIES)
  t_LARGEST : Tok
  g_LARGEST : mg "LARGEST" = some (.int 1000000000000000000 t_LARGEST)
  n_LookupError : mg "LookupError" = none
  n_ValueError : mg "ValueError" = none
  n_abs : mg "abs" = none
  n_all : mg "all" = none
  n_any : mg "any" = none
  n_bool : mg "bool" = none
  n_divmod : mg "divmod" = none
  n_int : mg "int" = none
  n_isinstance : mg "isinstance" = none
  n_len : mg "len" = none
  n_list : mg "list" = none
  n_max : mg "max" = none
  n_min : mg "min" = none
  n_range : mg "range" = none
  n_repr : mg "repr" = none
  n_sorted : mg "sorted" = none
  n_sum : mg "sum" = none
  n_tuple : mg "tuple" = none
  n_zip : mg "zip" = none
/-! ### trees by their distances -/
section
variable {D : Int → Int → Int} {U : Int → Prop} {ks : List Int} {nb : Int → List Int}
def Btw (D : Int → Int → Int) (u x v : Int) : Prop := D u x + D x v = D u v
structure TreeU (D : Int → Int → Int) (U : Int → Prop) : Prop where
  nn : ∀ u v, U u → U v → 0 ≤ D u v
  self : ∀ u, U u → D u u = 0
  eq : ∀ u v, U u → U v → D u v = 0 → u = v
  sym : ∀ u v, U u → U v → D u v = D v u
  four : ∀ a b c d, U a → U b → U c → U d → D a b + D c d ≤ D a c + D b d ∨ D a b + D c d ≤ D a d + D b c
theorem TreeU.tri (t : TreeU D U) {a b c : Int} (ha : U a) (hb : U b) (hc : U c) : D a b ≤ D a c + D c b := by
  have := t.four a b c c ha hb hc hc
  have := t.self c hc
  have := t.sym b c hb hc
  omega
theorem TreeU.pos (t : TreeU D U) {a b : Int} (ha : U a) (hb : U b) (n : a ≠ b) : 0 < D a b := by
  have := t.nn a b ha hb
  rcases Int.lt_or_eq_of_le this with h | h
  · exact h
  · exact absurd (t.eq a b ha hb h.symm) n
theorem Btw.sym (t : TreeU D U) {a b c : Int} (ha : U a) (hb : U b) (hc : U c) (h : Btw D a b c) : Btw D c b a := by
  unfold Btw at h ⊢
  have := t.sym a b ha hb
  have := t.sym b c hb hc
  have := t.sym a c ha hc
  omega
/-- the three sums of four points -/
theorem TreeU.sums (t : TreeU D U) {a b c d : Int} (ha : U a) (hb : U b) (hc : U c) (hd : U d) :
    (D a b + D c d ≤ D a c + D b d ∨ D a b + D c d ≤ D a d + D b c) ∧ (D a c + D b d ≤ D a b + D c d ∨ D a c + D b d ≤ D a d + D b c) ∧ (D a d + D b c ≤ D a b + D c d ∨ D a d + D b c ≤ D a c + D b d) := by
  have h1 := t.four a b c d ha hb hc hd
  have h2 := t.four a c b d ha hc hb hd
  have h3 := t.four a d b c ha hd hb hc
  rw [t.sym c b hc hb] at h2
  rw [t.sym d c hd hc, t.sym d b hd hb] at h3
  exact ⟨h1, h2, h3⟩
/-- on one way, x and z: z is on one side of x -/
theorem TreeU.line (t : TreeU D U) {a x b z : Int} (ha : U a) (hx : U x) (hb : U b) (hz : U z) (h1 : Btw D a x b) (h2 : Btw D a z b) : Btw D a z x ∨ Btw D x z b := by
  obtain ⟨q1, q2, q3⟩ := t.sums ha hb hx hz
  have := t.sym b x hb hx
  have := t.sym b z hb hz
  have := t.sym x z hx hz
  have := t.nn x z hx hz
  unfold Btw at *
  omega
theorem TreeU.med1 (t : TreeU D U) {a b c x y : Int} (ha : U a) (hb : U b) (hc : U c) (hx : U x) (hy : U y)
    (h1 : Btw D a x b) (h2 : Btw D a x c) (h3 : Btw D b x c) (k1 : Btw D a y b) (k2 : Btw D a y c) (k3 : Btw D b y c) : x = y := by
  refine t.eq x y hx hy ?_
  obtain ⟨q1, q2, q3⟩ := t.sums ha hb hx hy
  have := t.sym b x hb hx
  have := t.sym b y hb hy
  have := t.sym c x hc hx
  have := t.sym c y hc hy
  have := t.nn x y hx hy
  unfold Btw at *
  omega
theorem TreeU.mid_l (t : TreeU D U) {u x v z : Int} (hu : U u) (hx : U x) (hv : U v) (hz : U z) (h : Btw D u x v) (k : Btw D u z x) : Btw D u z v ∧ Btw D z x v := by
  have := t.tri hu hv hz
  have := t.tri hz hv hx
  unfold Btw at *
  omega
theorem TreeU.mid_ne (t : TreeU D U) {u x v z : Int} (hu : U u) (hx : U x) (hv : U v) (h : Btw D u x v) (n : x ≠ v) (k : Btw D u z x) : z ≠ v := fun e => by
  subst e
  have := t.pos hx hv n
  have := t.sym x z hx hv
  unfold Btw at *
  omega
structure Rp (D : Int → Int → Int) (ks : List Int) (nb : Int → List Int) : Prop where
  nd : ∀ u ∈ ks, (nb u).Nodup
  adj : ∀ u ∈ ks, ∀ v, v ∈ nb u ↔ v ∈ ks ∧ v ≠ u ∧ ∀ x ∈ ks, x ≠ u → x ≠ v → ¬ Btw D u x v
  med : ∀ u ∈ ks, ∀ v ∈ ks, ∀ w ∈ ks, ∃ m ∈ ks, Btw D u m v ∧ Btw D u m w ∧ Btw D v m w
theorem Rp.sym (r : Rp D ks nb) (t : TreeU D U) (hU : ∀ u ∈ ks, U u) {u v : Int} (hu : u ∈ ks) (h : v ∈ nb u) : u ∈ nb v := by
  obtain ⟨a, b, c⟩ := (r.adj u hu v).mp h
  refine (r.adj v a u).mpr ⟨hu, Ne.symm b, fun x hx n1 n2 k => c x hx n2 n1 (k.sym t (hU v a) (hU x hx) (hU u hu))⟩
/-- x lies between two of its neighbours -/
theorem Rp.through (r : Rp D ks nb) (t : TreeU D U) (hU : ∀ u ∈ ks, U u) {x p q : Int} (hx : x ∈ ks) (hp : p ∈ nb x) (hq : q ∈ nb x) (n : p ≠ q) : Btw D p x q := by
  obtain ⟨p1, p2, p3⟩ := (r.adj x hx p).mp hp
  obtain ⟨q1, q2, q3⟩ := (r.adj x hx q).mp hq
  obtain ⟨m, hm, m1, m2, m3⟩ := r.med x hx p p1 q q1
  by_cases c1 : m = x
  · rw [← c1]
    exact m3
  · by_cases c2 : m = p
    · subst c2
      exact absurd m2 (q3 m hm c1 n)
    · exact absurd m1 (p3 m hm c1 c2)
theorem min_of {p : Int → Prop} (f : Int → Int) : ∀ l : List Int, (∃ z ∈ l, p z) → ∃ y ∈ l, p y ∧ ∀ z ∈ l, p z → f y ≤ f z
  | [], h => by
    obtain ⟨z, hz, _⟩ := h
    cases hz
  | a :: l, h => by
    by_cases c : ∃ z ∈ l, p z
    · obtain ⟨y, y1, y2, y3⟩ := min_of f l c
      by_cases d : p a ∧ f a < f y
      · refine ⟨a, List.mem_cons_self, d.1, fun z hz pz => ?_⟩
        rcases List.mem_cons.mp hz with rfl | hz
        · exact Int.le_refl _
        · have := y3 z hz pz
          omega
      · refine ⟨y, List.mem_cons_of_mem _ y1, y2, fun z hz pz => ?_⟩
        rcases List.mem_cons.mp hz with rfl | hz
        · by_cases e : f z < f y
          · exact absurd ⟨pz, e⟩ d
          · omega
        · exact y3 z hz pz
    · obtain ⟨z, hz, pz⟩ := h
      refine ⟨z, hz, pz, fun w hw pw => ?_⟩
      rcases List.mem_cons.mp hw with e | hw
      · rcases List.mem_cons.mp hz with e2 | hz
        · rw [e, e2]
          exact Int.le_refl _
        · exact absurd ⟨z, hz, pz⟩ c
      · exact absurd ⟨w, hw, pw⟩ c
/-- the neighbour on the way from x to u -/
theorem Rp.toward (r : Rp D ks nb) (t : TreeU D U) (hU : ∀ u ∈ ks, U u) {x u : Int} (hx : x ∈ ks) (hu : u ∈ ks) (n : x ≠ u) : ∃ y ∈ nb x, Btw D x y u := by
  have s : Btw D x u u := by
    have := t.self u (hU u hu)
    unfold Btw
    omega
  obtain ⟨y, hy, ⟨y1, y2⟩, y3⟩ := min_of (p := fun y => y ≠ x ∧ Btw D x y u) (fun y => D x y) ks ⟨u, hu, Ne.symm n, s⟩
  refine ⟨y, (r.adj x hx y).mpr ⟨hy, y1, fun z hz n1 n2 k => ?_⟩, y2⟩
  have hzy := t.pos (hU z hz) (hU y hy) n2
  have m := (t.mid_l (hU x hx) (hU y hy) (hU u hu) (hU z hz) y2 k).1
  have := y3 z hz ⟨n1, m⟩
  unfold Btw at k
  omega
theorem two_lists {l : List Int} (h : l.length ≤ 2) {a b : Int} (ha : a ∈ l) (hb : b ∈ l) (n : a ≠ b) : l = [a, b] ∨ l = [b, a] := by
  match l, h with
  | [], _ => cases ha
  | [c], _ =>
    rw [List.mem_singleton] at ha hb
    exact absurd (ha.trans hb.symm) n
  | [c, d], _ =>
    simp only [List.mem_cons, List.not_mem_nil, or_false] at ha hb
    rcases ha with rfl | rfl <;> rcases hb with rfl | rfl
    · exact absurd rfl n
    · exact .inl rfl
    · exact .inr rfl
    · exact absurd rfl n
/-- what is left at u when x goes -/
def cutN (nb : Int → List Int) (x : Int) : Int → List Int := fun u =>
  match nb x with
  | [a, b] => if u = a then (nb u).erase x ++ [b] else if u = b then (nb u).erase x ++ [a] else (nb u).erase x
  | _ => (nb u).erase x
theorem mem_cutN {nb : Int → List Int} {x u v : Int} (nd : (nb u).Nodup) (nx : (nb x).Nodup) : v ∈ cutN nb x u ↔ (v ∈ nb u ∧ v ≠ x) ∨ ((nb x = [u, v] ∨ nb x = [v, u]) ∧ u ≠ v) := by
  have e : v ∈ (nb u).erase x ↔ v ∈ nb u ∧ v ≠ x := by
    rw [nd.mem_erase_iff]
    exact ⟨fun h => ⟨h.2, h.1⟩, fun h => ⟨h.2, h.1⟩⟩
  unfold cutN
  split
  · rename_i a b h
    rw [h] at nx
    have nab : a ≠ b := by
      simp only [List.nodup_cons, List.mem_singleton] at nx
      exact nx.1
    by_cases c1 : u = a
    · rw [if_pos c1, List.mem_append, e, List.mem_singleton]
      subst c1
      constructor
      · rintro (z | rfl)
        · exact .inl z
        · exact .inr ⟨.inl h, nab⟩
      · rintro (z | ⟨z | z, n⟩)
        · exact .inl z
        · rw [h] at z
          injection z with _ z
          injection z with z
          exact .inr z.symm
        · rw [h] at z
          injection z with z1 z
          exact absurd z1 n
    · rw [if_neg c1]
      by_cases c2 : u = b
      · rw [if_pos c2, List.mem_append, e, List.mem_singleton]
        subst c2
        constructor
        · rintro (z | rfl)
          · exact .inl z
          · exact .inr ⟨.inr h, Ne.symm nab⟩
        · rintro (z | ⟨z | z, n⟩)
          · exact .inl z
          · rw [h] at z
            injection z with z1 z
            exact absurd z1.symm c1
          · rw [h] at z
            injection z with z1 z
            exact .inr z1.symm
      · rw [if_neg c2, e]
        constructor
        · exact .inl
        · rintro (z | ⟨z | z, n⟩)
          · exact z
          · rw [h] at z
            injection z with z1 z
            exact absurd z1.symm c1
          · rw [h] at z
            injection z with z1 z
            injection z with z2 z
            exact absurd z2.symm c2
  · rename_i h
    rw [e]
    constructor
    · exact .inl
    · rintro (z | ⟨z | z, n⟩)
      · exact z
      · exact absurd z (h _ _)
      · exact absurd z (h _ _)
/-- a node with less than three ties goes -/
theorem Rp.cut (r : Rp D ks nb) (t : TreeU D U) (hU : ∀ u ∈ ks, U u) (nk : ks.Nodup) {x : Int} (hx : x ∈ ks) (few : (nb x).length < 3) : Rp D (ks.erase x) (cutN nb x) := by
  have me : ∀ {u}, u ∈ ks.erase x ↔ u ≠ x ∧ u ∈ ks := fun {u} => nk.mem_erase_iff
  have nxx : x ∉ nb x := fun z => ((r.adj x hx x).mp z).2.1 rfl
  have key : ∀ a b, a ∈ nb x → b ∈ nb x → a ≠ b → b ∉ nb a := fun a b ha hb n z => by
    obtain ⟨a1, a2, _⟩ := (r.adj x hx a).mp ha
    obtain ⟨b1, b2, _⟩ := (r.adj x hx b).mp hb
    exact ((r.adj a a1 b).mp z).2.2 x hx (Ne.symm a2) (Ne.symm b2) (r.through t hU hx ha hb n)
  refine ⟨fun u hu => ?_, fun u hu v => ?_, fun u hu v hv w hw => ?_⟩
  · obtain ⟨u1, u2⟩ := me.mp hu
    have e1 := (r.nd u u2).erase x
    unfold cutN
    split
    · rename_i a b h
      have nx := r.nd x hx
      rw [h] at nx
      have nab : a ≠ b := by
        simp only [List.nodup_cons, List.mem_singleton] at nx
        exact nx.1
      have ha : a ∈ nb x := by rw [h]; exact List.mem_cons_self
      have hb : b ∈ nb x := by rw [h]; exact List.mem_cons_of_mem _ List.mem_cons_self
      split
      · rename_i c
        subst c
        refine List.nodup_append.mpr ⟨e1, by simp, fun y hy z hz e => ?_⟩
        rw [List.mem_singleton.mp hz] at e
        rw [e] at hy
        exact key u b ha hb nab (List.mem_of_mem_erase hy)
      · split
        · rename_i c
          subst c
          refine List.nodup_append.mpr ⟨e1, by simp, fun y hy z hz e => ?_⟩
          rw [List.mem_singleton.mp hz] at e
          rw [e] at hy
          exact key u a hb ha (Ne.symm nab) (List.mem_of_mem_erase hy)
        · exact e1
    · exact e1
  · obtain ⟨u1, u2⟩ := me.mp hu
    rw [mem_cutN (r.nd u u2) (r.nd x hx)]
    constructor
    · rintro (⟨h, n⟩ | ⟨h, n⟩)
      · obtain ⟨v1, v2, v3⟩ := (r.adj u u2 v).mp h
        exact ⟨me.mpr ⟨n, v1⟩, v2, fun z hz => v3 z (me.mp hz).2⟩
      · have hu3 : u ∈ nb x := by rcases h with h | h <;> rw [h] <;> simp
        have hv3 : v ∈ nb x := by rcases h with h | h <;> rw [h] <;> simp
        obtain ⟨v1, v2, v3⟩ := (r.adj x hx v).mp hv3
        obtain ⟨w1, w2, w3⟩ := (r.adj x hx u).mp hu3
        refine ⟨me.mpr ⟨v2, v1⟩, Ne.symm n, fun z hz n1 n2 k => ?_⟩
        obtain ⟨z1, z2⟩ := me.mp hz
        have th := r.through t hU hx hu3 hv3 n
        rcases t.line (hU u u2) (hU x hx) (hU v v1) (hU z z2) th k with l | l
        · exact w3 z z2 z1 n1 (l.sym t (hU u u2) (hU z z2) (hU x hx))
        · exact v3 z z2 z1 n2 l
    · rintro ⟨hv, n, h⟩
      obtain ⟨v1, v2⟩ := me.mp hv
      by_cases c : Btw D u x v
      · have a1 : u ∈ nb x := r.sym t hU u2 ((r.adj u u2 x).mpr ⟨hx, Ne.symm u1, fun z hz n1 n2 k => h z (me.mpr ⟨n2, hz⟩) n1 (t.mid_ne (hU u u2) (hU x hx) (hU v v2) c (Ne.symm v1) k) (t.mid_l (hU u u2) (hU x hx) (hU v v2) (hU z hz) c k).1⟩)
        have c' := c.sym t (hU u u2) (hU x hx) (hU v v2)
        have a2 : v ∈ nb x := r.sym t hU v2 ((r.adj v v2 x).mpr ⟨hx, Ne.symm v1, fun z hz n1 n2 k => h z (me.mpr ⟨n2, hz⟩) (t.mid_ne (hU v v2) (hU x hx) (hU u u2) c' (Ne.symm u1) k) n1 ((t.mid_l (hU v v2) (hU x hx) (hU u u2) (hU z hz) c' k).1.sym t (hU v v2) (hU z hz) (hU u u2))⟩)
        exact .inr ⟨two_lists (by omega) a1 a2 (Ne.symm n), Ne.symm n⟩
      · refine .inl ⟨(r.adj u u2 v).mpr ⟨v2, n, fun z hz n1 n2 k => ?_⟩, v1⟩
        by_cases cz : z = x
        · subst cz
          exact c k
        · exact h z (me.mpr ⟨cz, hz⟩) n1 n2 k
  · obtain ⟨u1, u2⟩ := me.mp hu
    obtain ⟨v1, v2⟩ := me.mp hv
    obtain ⟨w1, w2⟩ := me.mp hw
    obtain ⟨m, hm, m1, m2, m3⟩ := r.med u u2 v v2 w w2
    by_cases c : m = x
    · exfalso
      subst c
      obtain ⟨a, ha, a1⟩ := r.toward t hU hm u2 (Ne.symm u1)
      obtain ⟨b, hb, b1⟩ := r.toward t hU hm v2 (Ne.symm v1)
      obtain ⟨c, hc, c1⟩ := r.toward t hU hm w2 (Ne.symm w1)
      have ne : ∀ {u v a : Int}, u ∈ ks → v ∈ ks → a ∈ nb m → Btw D m a u → Btw D m a v → Btw D u m v → False := fun {u v a} hu hv ha a1 a2 k => by
        obtain ⟨x1, x2, _⟩ := (r.adj m hm a).mp ha
        have := t.tri (hU u hu) (hU v hv) (hU a x1)
        have := t.pos (hU m hm) (hU a x1) (Ne.symm x2)
        have := t.sym a u (hU a x1) (hU u hu)
        have := t.sym m u (hU m hm) (hU u hu)
        unfold Btw at *
        omega
      have nab : a ≠ b := fun e => by subst e; exact ne u2 v2 ha a1 b1 m1
      have nac : a ≠ c := fun e => by subst e; exact ne u2 w2 ha a1 c1 m2
      have nbc : b ≠ c := fun e => by subst e; exact ne v2 w2 hb b1 c1 m3
      rcases two_lists (by omega) ha hb nab with e | e
      all_goals
        rw [e] at hc
        simp only [List.mem_cons, List.not_mem_nil, or_false] at hc
        rcases hc with rfl | rfl
        · first | exact nac rfl | exact nbc rfl
        · first | exact nbc rfl | exact nac rfl
    · exact ⟨m, me.mpr ⟨c, hm⟩, m1, m2, m3⟩
end

/-! ### what ties are, as a tree of worlds -/
section
variable {D : Int → Int → Int} {ever w : Int} {liv liv' ks ks' : List Int} {nb nb' : Int → List Int}
def Un (ever : Int) (x : Int) : Prop := 0 ≤ x ∧ x < ever
structure Tr3 (D : Int → Int → Int) (ever : Int) (liv ks : List Int) (nb : Int → List Int) : Prop where
  t : TreeU D (Un ever)
  hU : ∀ u ∈ ks, Un ever u
  rp : Rp D ks nb
  nk : ks.Nodup
  nl : liv.Nodup
  sub : ∀ x ∈ liv, x ∈ ks
  red : ∀ x ∈ ks, x ∉ liv → 3 ≤ (nb x).length
  e0 : 0 < ever
theorem sub_len : ∀ {l m : List Int}, l.Nodup → (∀ x ∈ l, x ∈ m) → l.length ≤ m.length
  | [], _, _, _ => Nat.zero_le _
  | a :: l, m, n, h => by
    rw [List.nodup_cons] at n
    have ha := h a List.mem_cons_self
    have e := List.length_erase_of_mem ha
    have ih := sub_len (m := m.erase a) n.2 fun x hx => (List.mem_erase_of_ne (fun z => n.1 (by rw [← z]; exact hx))).mpr (h x (List.mem_cons_of_mem _ hx))
    have := List.length_pos_of_mem ha
    rw [List.length_cons]
    omega
theorem un_len {l : List Int} (n : l.Nodup) (h : ∀ x ∈ l, Un ever x) : l.length ≤ ever.toNat := by
  have := sub_len (m := (List.range ever.toNat).map Int.ofNat) n fun x hx => by
    obtain ⟨a, b⟩ := h x hx
    refine List.mem_map.mpr ⟨x.toNat, List.mem_range.mpr (by omega), ?_⟩
    show (x.toNat : Int) = x
    omega
  rw [List.length_map, List.length_range] at this
  exact this
theorem Tr3.klen (z : Tr3 D ever liv ks nb) : ks.length ≤ ever.toNat := un_len z.nk z.hU
theorem Tr3.nlen (z : Tr3 D ever liv ks nb) {u : Int} (hu : u ∈ ks) : (nb u).length ≤ ever.toNat := un_len (z.rp.nd u hu) fun x hx => z.hU x ((z.rp.adj u hu x).mp hx).1
theorem Tr3.llen (z : Tr3 D ever liv ks nb) : liv.length ≤ ever.toNat := un_len z.nl fun x hx => z.hU x (z.sub x hx)
/-- the same ties, told in another order -/
theorem Rp.alike (r : Rp D ks nb) (m : ∀ x, x ∈ ks' ↔ x ∈ ks) (nd : ∀ u ∈ ks, (nb' u).Nodup) (h : ∀ u ∈ ks, ∀ v, v ∈ nb' u ↔ v ∈ nb u) : Rp D ks' nb' :=
  ⟨fun u hu => nd u ((m u).mp hu), fun u hu v => by
    rw [h u ((m u).mp hu), r.adj u ((m u).mp hu), m]
    exact ⟨fun ⟨a, b, c⟩ => ⟨a, b, fun x hx => c x ((m x).mp hx)⟩, fun ⟨a, b, c⟩ => ⟨a, b, fun x hx => c x ((m x).mpr hx)⟩⟩, fun u hu v hv w hw => by
    obtain ⟨x, x1, x2⟩ := r.med u ((m u).mp hu) v ((m v).mp hv) w ((m w).mp hw)
    exact ⟨x, (m x).mpr x1, x2⟩⟩
theorem nd_perm {l m : List Int} (h1 : l.Nodup) (h2 : m.Nodup) (h : ∀ x, x ∈ l ↔ x ∈ m) : l.Perm m := (List.perm_ext_iff_of_nodup h1 h2).mpr fun a => h a
theorem Tr3.alike (z : Tr3 D ever liv ks nb) (nk : ks'.Nodup) (m : ∀ x, x ∈ ks' ↔ x ∈ ks) (nl : liv'.Nodup) (ml : ∀ x, x ∈ liv' ↔ x ∈ liv) (nd : ∀ u ∈ ks, (nb' u).Nodup) (h : ∀ u ∈ ks, ∀ v, v ∈ nb' u ↔ v ∈ nb u) : Tr3 D ever liv' ks' nb' :=
  ⟨z.t, fun u hu => z.hU u ((m u).mp hu), z.rp.alike m nd h, nk, nl, fun x hx => (m x).mpr (z.sub x ((ml x).mp hx)), fun x hx n => by
    have hx' := (m x).mp hx
    rw [(nd_perm (nd x hx') (z.rp.nd x hx') (h x hx')).length_eq]
    exact z.red x hx' fun q => n ((ml x).mpr q), z.e0⟩
def D0 : Int → Int → Int := fun _ _ => 0
theorem tr3_init : Tr3 D0 1 [0] [0] (fun _ => []) := by
  have e : ∀ u, Un 1 u → u = 0 := fun u h => by
    obtain ⟨a, b⟩ := h
    omega
  refine ⟨⟨fun _ _ _ _ => Int.le_refl _, fun _ _ => rfl, fun u v hu hv _ => by rw [e u hu, e v hv], fun _ _ _ _ => rfl, fun _ _ _ _ _ _ _ _ => .inl (Int.le_refl _)⟩, fun u hu => ?_, ⟨fun _ _ => List.nodup_nil, fun u hu v => ?_, fun u _ _ _ _ _ => ⟨0, List.mem_singleton.mpr rfl, rfl, rfl, rfl⟩⟩, by simp, by simp, fun _ h => h, fun x hx n => absurd hx n, by decide⟩
  · rw [List.mem_singleton.mp hu]
    exact ⟨Int.le_refl _, by decide⟩
  · constructor
    · intro h
      cases h
    · rintro ⟨a, b, _⟩
      rw [List.mem_singleton.mp hu, List.mem_singleton.mp a] at b
      exact absurd rfl b
/-- a fork: n hangs at w -/
def Dk (D : Int → Int → Int) (n w : Int) : Int → Int → Int := fun u v => if u = n then (if v = n then 0 else D w v + 1) else if v = n then D u w + 1 else D u v
theorem dk_old {n u v : Int} (hu : u ≠ n) (hv : v ≠ n) : Dk D n w u v = D u v := by
  unfold Dk
  rw [if_neg hu, if_neg hv]
theorem dk_nl {n v : Int} (hv : v ≠ n) : Dk D n w n v = D w v + 1 := by
  unfold Dk
  rw [if_pos rfl, if_neg hv]
theorem dk_nr {n u : Int} (hu : u ≠ n) : Dk D n w u n = D u w + 1 := by
  unfold Dk
  rw [if_neg hu, if_pos rfl]
theorem dk_nn {n : Int} : Dk D n w n n = 0 := by
  unfold Dk
  rw [if_pos rfl, if_pos rfl]
theorem TreeU.fork (t : TreeU D (Un ever)) (hw : Un ever w) : TreeU (Dk D ever w) (Un (ever + 1)) := by
  have old : ∀ {u}, Un (ever + 1) u → u = ever ∨ (u ≠ ever ∧ Un ever u) := fun {u} h => by
    obtain ⟨a, b⟩ := h
    by_cases c : u = ever
    · exact .inl c
    · exact .inr ⟨c, a, by omega⟩
  have sw := t.self w hw
  refine ⟨fun u v hu hv => ?_, fun u hu => ?_, fun u v hu hv h => ?_, fun u v hu hv => ?_, fun a b c d ha hb hc hd => ?_⟩
  · rcases old hu with rfl | ⟨u1, u2⟩ <;> rcases old hv with rfl | ⟨v1, v2⟩
    · rw [dk_nn]; exact Int.le_refl _
    · rw [dk_nl v1]; have := t.nn w v hw v2; omega
    · rw [dk_nr u1]; have := t.nn u w u2 hw; omega
    · rw [dk_old u1 v1]; exact t.nn u v u2 v2
  · rcases old hu with rfl | ⟨u1, u2⟩
    · rw [dk_nn]
    · rw [dk_old u1 u1]; exact t.self u u2
  · rcases old hu with rfl | ⟨u1, u2⟩ <;> rcases old hv with rfl | ⟨v1, v2⟩
    · rfl
    · rw [dk_nl v1] at h; have := t.nn w v hw v2; omega
    · rw [dk_nr u1] at h; have := t.nn u w u2 hw; omega
    · rw [dk_old u1 v1] at h; exact t.eq u v u2 v2 h
  · rcases old hu with rfl | ⟨u1, u2⟩ <;> rcases old hv with rfl | ⟨v1, v2⟩
    · rfl
    · rw [dk_nl v1, dk_nr v1, t.sym w v hw v2]
    · rw [dk_nl u1, dk_nr u1, t.sym w u hw u2]
    · rw [dk_old u1 v1, dk_old v1 u1, t.sym u v u2 v2]
  · rcases old ha with rfl | ⟨a1, a2⟩ <;> rcases old hb with rfl | ⟨b1, b2⟩ <;> rcases old hc with rfl | ⟨c1, c2⟩ <;> rcases old hd with rfl | ⟨d1, d2⟩
    · simp only [dk_nn]; omega
    · simp only [dk_nn, dk_nl d1]; omega
    · simp only [dk_nn, dk_nl c1, dk_nr c1]; have := t.sym w c hw c2; omega
    · simp only [dk_nn, dk_nl d1, dk_nl c1, dk_old c1 d1]
      have := t.tri c2 d2 hw
      have := t.sym w c hw c2
      omega
    · simp only [dk_nn, dk_nl b1, dk_nr b1]; have := t.sym w b hw b2; omega
    · simp only [dk_nn, dk_nl d1, dk_nl b1, dk_nr b1, dk_old b1 d1]
      have := t.tri b2 d2 hw
      have := t.sym w b hw b2
      omega
    · simp only [dk_nn, dk_nl c1, dk_nr c1, dk_nl b1, dk_nr b1, dk_old b1 c1]
      have := t.tri b2 c2 hw
      have := t.sym w b hw b2
      have := t.sym w c hw c2
      omega
    · simp only [dk_nl d1, dk_nl b1, dk_nl c1, dk_old b1 d1, dk_old c1 d1, dk_old b1 c1]
      have := t.four w b c d hw b2 c2 d2
      omega
    · simp only [dk_nn, dk_nr a1]; omega
    · simp only [dk_nn, dk_nl d1, dk_nr a1, dk_old a1 d1]
      have := t.tri a2 d2 hw
      omega
    · simp only [dk_nn, dk_nl c1, dk_nr c1, dk_nr a1, dk_old a1 c1]
      have := t.tri a2 c2 hw
      have := t.sym w c hw c2
      omega
    · simp only [dk_nl d1, dk_nr a1, dk_nl c1, dk_old a1 d1, dk_old c1 d1, dk_old a1 c1]
      have := t.four a w c d a2 hw c2 d2
      omega
    · simp only [dk_nn, dk_nr a1, dk_nr b1, dk_old a1 b1]
      have := t.tri a2 b2 hw
      have := t.sym w b hw b2
      omega
    · simp only [dk_nl d1, dk_nr a1, dk_nr b1, dk_old a1 b1, dk_old b1 d1, dk_old a1 d1]
      have := t.four a b w d a2 b2 hw d2
      omega
    · simp only [dk_nr a1, dk_nr b1, dk_nr c1, dk_old a1 b1, dk_old b1 c1, dk_old a1 c1]
      have := t.four a b c w a2 b2 c2 hw
      omega
    · rw [dk_old a1 b1, dk_old c1 d1, dk_old a1 c1, dk_old b1 d1, dk_old a1 d1, dk_old b1 c1]
      exact t.four a b c d a2 b2 c2 d2
def forkN (nb : Int → List Int) (n w : Int) : Int → List Int := fun u => if u = n then [w] else if u = w then nb u ++ [n] else nb u
theorem Rp.fork (r : Rp D ks nb) (t : TreeU D (Un ever)) (hU : ∀ u ∈ ks, Un ever u) (hw : w ∈ ks) : Rp (Dk D ever w) (ks ++ [ever]) (forkN nb ever w) := by
  have old : ∀ {u}, u ∈ ks → u ≠ ever := fun {u} h e => by
    obtain ⟨a, b⟩ := hU u h
    omega
  have hwU := hU w hw
  have nin : ∀ {u}, u ∈ ks → ever ∉ nb u := fun {u} hu z => old ((r.adj u hu ever).mp z).1 rfl
  have me : ∀ {u}, u ∈ ks ++ [ever] ↔ u ∈ ks ∨ u = ever := fun {u} => by rw [List.mem_append, List.mem_singleton]
  have sw := t.self w hwU
  refine ⟨fun u hu => ?_, fun u hu v => ?_, fun u hu v hv x hx => ?_⟩
  · unfold forkN
    split
    · simp
    · rename_i c
      have hu' := (me.mp hu).resolve_right c
      split
      · exact List.nodup_append.mpr ⟨r.nd u hu', by simp, fun a ha b hb e => nin hu' (by rw [List.mem_singleton.mp hb] at e; rw [← e]; exact ha)⟩
      · exact r.nd u hu'
  · unfold forkN
    by_cases c : u = ever
    · subst c
      rw [if_pos rfl, List.mem_singleton]
      constructor
      · rintro rfl
        refine ⟨me.mpr (.inl hw), old hw, fun x hx n1 n2 k => ?_⟩
        have hx' := (me.mp hx).resolve_right n1
        unfold Btw at k
        rw [dk_nl n1, dk_nl (old hw), dk_old n1 (old hw)] at k
        have := t.pos (hU v hw) (hU x hx') (Ne.symm n2)
        have := t.sym v x hwU (hU x hx')
        omega
      · rintro ⟨a, b, h⟩
        have hv' := (me.mp a).resolve_right b
        refine Classical.byContradiction fun n => h w (me.mpr (.inl hw)) (old hw) (fun z => n z.symm) ?_
        unfold Btw
        rw [dk_nl (old hw), dk_nl b, dk_old (old hw) b]
        omega
    · rw [if_neg c]
      have hu' := (me.mp hu).resolve_right c
      by_cases cv : v = ever
      · subst cv
        by_cases cw : u = w
        · subst cw
          rw [if_pos rfl]
          refine ⟨fun _ => ⟨me.mpr (.inr rfl), Ne.symm c, fun x hx n1 n2 k => ?_⟩, fun _ => List.mem_append.mpr (.inr (List.mem_singleton.mpr rfl))⟩
          have hx' := (me.mp hx).resolve_right n2
          unfold Btw at k
          rw [dk_old c n2, dk_nr n2, dk_nr c] at k
          have := t.pos hwU (hU x hx') (Ne.symm n1)
          have := t.sym u x hwU (hU x hx')
          omega
        · rw [if_neg cw]
          refine ⟨fun z => absurd z (nin hu'), fun ⟨_, _, h⟩ => ?_⟩
          refine absurd ?_ (h w (me.mpr (.inl hw)) (fun z => cw z.symm) (old hw))
          unfold Btw
          rw [dk_old c (old hw), dk_nr (old hw), dk_nr c]
          omega
      · have e : (v ∈ if u = w then nb u ++ [ever] else nb u) ↔ v ∈ nb u := by
          split
          · rw [List.mem_append, List.mem_singleton]
            exact ⟨fun z => z.resolve_right cv, .inl⟩
          · exact Iff.rfl
        rw [e, r.adj u hu' v]
        constructor
        · rintro ⟨a, b, h⟩
          refine ⟨me.mpr (.inl a), b, fun x hx n1 n2 k => ?_⟩
          unfold Btw at k
          rcases me.mp hx with hx' | rfl
          · rw [dk_old c (old hx'), dk_old (old hx') cv, dk_old c cv] at k
            exact h x hx' n1 n2 k
          · rw [dk_nr c, dk_nl cv, dk_old c cv] at k
            have := t.tri (hU u hu') (hU v a) hwU
            omega
        · rintro ⟨a, b, h⟩
          refine ⟨(me.mp a).resolve_right cv, b, fun x hx n1 n2 k => h x (me.mpr (.inl hx)) n1 n2 ?_⟩
          unfold Btw at k ⊢
          rw [dk_old c (old hx), dk_old (old hx) cv, dk_old c cv]
          exact k
  · -- medians
    have self : ∀ {u}, u ∈ ks → D u u = 0 := fun {u} h => t.self u (hU u h)
    have bo : ∀ {a b c}, a ∈ ks → b ∈ ks → c ∈ ks → Btw D a b c → Btw (Dk D ever w) a b c := fun {a b c} ha hb hc h => by
      unfold Btw at h ⊢
      rw [dk_old (old ha) (old hb), dk_old (old hb) (old hc), dk_old (old ha) (old hc)]
      exact h
    have bl : ∀ {b c}, b ∈ ks → c ∈ ks → Btw D w b c → Btw (Dk D ever w) ever b c := fun {b c} hb hc h => by
      unfold Btw at h ⊢
      rw [dk_nl (old hb), dk_old (old hb) (old hc), dk_nl (old hc)]
      omega
    have br : ∀ {a b}, a ∈ ks → b ∈ ks → Btw D a b w → Btw (Dk D ever w) a b ever := fun {a b} ha hb h => by
      unfold Btw at h ⊢
      rw [dk_nr (old hb), dk_old (old ha) (old hb), dk_nr (old ha)]
      omega
    have en : ∀ {a}, a ∈ ks → Btw (Dk D ever w) a ever ever ∧ Btw (Dk D ever w) ever ever a := fun {a} ha => by
      unfold Btw
      rw [dk_nn, dk_nr (old ha), dk_nl (old ha)]
      omega
    have nn : Btw (Dk D ever w) ever ever ever := by
      unfold Btw
      rw [dk_nn]
      omega
    replace hu := me.mp hu
    replace hv := me.mp hv
    replace hx := me.mp hx
    rcases hu with hu | rfl <;> rcases hv with hv | rfl <;> rcases hx with hx | rfl
    · obtain ⟨m, hm, m1, m2, m3⟩ := r.med u hu v hv x hx
      exact ⟨m, me.mpr (.inl hm), bo hu hm hv m1, bo hu hm hx m2, bo hv hm hx m3⟩
    · obtain ⟨m, hm, m1, m2, m3⟩ := r.med u hu v hv w hw
      exact ⟨m, me.mpr (.inl hm), bo hu hm hv m1, br hu hm m2, br hv hm m3⟩
    · obtain ⟨m, hm, m1, m2, m3⟩ := r.med u hu w hw x hx
      exact ⟨m, me.mpr (.inl hm), br hu hm m1, bo hu hm hx m2, bl hm hx m3⟩
    · exact ⟨_, me.mpr (.inr rfl), (en hu).1, (en hu).1, nn⟩
    · obtain ⟨m, hm, m1, m2, m3⟩ := r.med w hw v hv x hx
      exact ⟨m, me.mpr (.inl hm), bl hm hv m1, bl hm hx m2, bo hv hm hx m3⟩
    · exact ⟨_, me.mpr (.inr rfl), (en hv).2, nn, (en hv).1⟩
    · exact ⟨_, me.mpr (.inr rfl), nn, (en hx).2, (en hx).2⟩
    · exact ⟨_, me.mpr (.inr rfl), nn, nn, nn⟩
theorem Tr3.fork (z : Tr3 D ever liv ks nb) (hw : w ∈ ks) : Tr3 (Dk D ever w) (ever + 1) (liv ++ [ever]) (ks ++ [ever]) (forkN nb ever w) := by
  have old : ∀ {u}, u ∈ ks → u ≠ ever := fun {u} h e => by
    obtain ⟨a, b⟩ := z.hU u h
    omega
  refine ⟨z.t.fork (z.hU w hw), fun u hu => ?_, z.rp.fork z.t z.hU hw, ?_, ?_, fun x hx => ?_, fun x hx n => ?_, by have := z.e0; omega⟩
  · rcases List.mem_append.mp hu with h | h
    · obtain ⟨a, b⟩ := z.hU u h
      exact ⟨a, by omega⟩
    · rw [List.mem_singleton.mp h]
      have := z.e0
      exact ⟨by omega, by omega⟩
  · exact List.nodup_append.mpr ⟨z.nk, by simp, fun a ha b hb e => old ha (by rw [e, List.mem_singleton.mp hb])⟩
  · exact List.nodup_append.mpr ⟨z.nl, by simp, fun a ha b hb e => old (z.sub a ha) (by rw [e, List.mem_singleton.mp hb])⟩
  · rcases List.mem_append.mp hx with h | h
    · exact List.mem_append.mpr (.inl (z.sub x h))
    · exact List.mem_append.mpr (.inr h)
  · rw [List.mem_append, not_or] at n
    rcases List.mem_append.mp hx with h | h
    · have := z.red x h n.1
      unfold forkN
      rw [if_neg (old h)]
      split
      · rw [List.length_append]
        omega
      · exact this
    · exact absurd h n.2
/-! ### what stays: the living and the medians of three -/
theorem TreeU.join {U : Int → Prop} (t : TreeU D U) {p x q y z : Int} (hp : U p) (hx : U x) (hq : U q) (hy : U y) (hz : U z) (nxp : x ≠ p) (nxq : x ≠ q) (th : Btw D p x q) (h1 : Btw D x p y) (h2 : Btw D x q z) : Btw D y x z := by
  have a1 := t.pos hx hp nxp
  have a2 := t.pos hx hq nxq
  obtain ⟨q1, q2, q3⟩ := t.sums hx hq hp hy
  obtain ⟨r1, r2, r3⟩ := t.sums hx hy hq hz
  have s1 := t.sym p x hp hx
  have s2 := t.sym p q hp hq
  have s3 := t.sym x q hx hq
  have s4 := t.sym x y hx hy
  have s5 := t.sym q y hq hy
  have s6 := t.sym p y hp hy
  have tr := t.tri hy hz hx
  have tr2 := t.tri hy hq hx
  have tr3 := t.tri hy hq hp
  unfold Btw at *
  omega
theorem max_of {p : Int → Prop} (f : Int → Int) (l : List Int) (h : ∃ z ∈ l, p z) : ∃ y ∈ l, p y ∧ ∀ z ∈ l, p z → f z ≤ f y := by
  obtain ⟨y, y1, y2, y3⟩ := min_of (fun x => - f x) l h
  refine ⟨y, y1, y2, fun z hz pz => ?_⟩
  have := y3 z hz pz
  omega
theorem two_of {l : List Int} (nd : l.Nodup) (h : 3 ≤ l.length) (x : Int) : ∃ a ∈ l, a ≠ x := by
  match l, h with
  | a :: b :: _, _ =>
    by_cases c : a = x
    · refine ⟨b, by simp, fun e => ?_⟩
      rw [List.nodup_cons] at nd
      refine nd.1 ?_
      rw [c, ← e]
      exact List.mem_cons_self
    · exact ⟨a, by simp, c⟩
/-- beyond each neighbour there is one that lives -/
theorem Tr3.leaf (z : Tr3 D ever liv ks nb) {x p : Int} (hx : x ∈ ks) (hp : p ∈ nb x) : ∃ y ∈ liv, Btw D x p y := by
  obtain ⟨p1, p2, p3⟩ := (z.rp.adj x hx p).mp hp
  have s : Btw D x p p := by
    have := z.t.self p (z.hU p p1)
    unfold Btw
    omega
  obtain ⟨y, y1, y2, y3⟩ := max_of (p := fun y => Btw D x p y) (fun y => D x y) ks ⟨p, p1, s⟩
  refine Classical.byContradiction fun n => ?_
  have yl : y ∉ liv := fun h => n ⟨y, h, y2⟩
  have nyx : y ≠ x := fun e => by
    subst e
    have := z.t.pos (z.hU y hx) (z.hU p p1) (Ne.symm p2)
    have := z.t.self y (z.hU y hx)
    have := z.t.sym y p (z.hU y hx) (z.hU p p1)
    unfold Btw at y2
    omega
  have hxU := z.hU x hx
  have hyU := z.hU y y1
  have hpU := z.hU p p1
  obtain ⟨v, hv, v1⟩ := z.rp.toward z.t z.hU y1 hx nyx
  obtain ⟨u, hu, nu⟩ := two_of (z.rp.nd y y1) (z.red y y1 yl) v
  obtain ⟨u1, u2, u3⟩ := (z.rp.adj y y1 u).mp hu
  obtain ⟨w1, w2, w3⟩ := (z.rp.adj y y1 v).mp hv
  have huU := z.hU u u1
  have hvU := z.hU v w1
  have th := z.rp.through z.t z.hU y1 hu hv nu
  have k : Btw D u y x := z.t.join huU hyU hvU huU hxU (Ne.symm u2) (Ne.symm w2) th (by
    have := z.t.self u huU
    unfold Btw
    omega) v1
  have k' := k.sym z.t huU hyU hxU
  have f := z.t.pos hyU huU (Ne.symm u2)
  have m := y3 u u1 (by
    have := z.t.tri hxU huU hpU
    have := z.t.tri hpU huU hyU
    unfold Btw at *
    omega)
  unfold Btw at k'
  omega
def Med (D : Int → Int → Int) (liv : List Int) (x : Int) : Prop := ∃ a ∈ liv, ∃ b ∈ liv, ∃ c ∈ liv, Btw D a x b ∧ Btw D a x c ∧ Btw D b x c
theorem three_of {l : List Int} (nd : l.Nodup) (h : 3 ≤ l.length) : ∃ a ∈ l, ∃ b ∈ l, ∃ c ∈ l, a ≠ b ∧ a ≠ c ∧ b ≠ c := by
  match l, h with
  | a :: b :: c :: _, _ =>
    simp only [List.nodup_cons, List.mem_cons, not_or] at nd
    exact ⟨a, by simp, b, by simp, c, by simp, nd.1.1, nd.1.2.1, nd.2.1.1⟩
theorem Tr3.char (z : Tr3 D ever liv ks nb) (x : Int) : x ∈ ks ↔ Un ever x ∧ (x ∈ liv ∨ Med D liv x) := by
  constructor
  · intro hx
    refine ⟨z.hU x hx, ?_⟩
    by_cases c : x ∈ liv
    · exact .inl c
    refine .inr ?_
    obtain ⟨p, hp, q, hq, r, hr, n1, n2, n3⟩ := three_of (z.rp.nd x hx) (z.red x hx c)
    obtain ⟨a, ha, a1⟩ := z.leaf hx hp
    obtain ⟨b, hb, b1⟩ := z.leaf hx hq
    obtain ⟨d, hd, d1⟩ := z.leaf hx hr
    obtain ⟨p1, p2, _⟩ := (z.rp.adj x hx p).mp hp
    obtain ⟨q1, q2, _⟩ := (z.rp.adj x hx q).mp hq
    obtain ⟨r1, r2, _⟩ := (z.rp.adj x hx r).mp hr
    have U : ∀ {y}, y ∈ liv → Un ever y := fun {y} h => z.hU y (z.sub y h)
    exact ⟨a, ha, b, hb, d, hd, z.t.join (z.hU p p1) (z.hU x hx) (z.hU q q1) (U ha) (U hb) (Ne.symm p2) (Ne.symm q2) (z.rp.through z.t z.hU hx hp hq n1) a1 b1,
      z.t.join (z.hU p p1) (z.hU x hx) (z.hU r r1) (U ha) (U hd) (Ne.symm p2) (Ne.symm r2) (z.rp.through z.t z.hU hx hp hr n2) a1 d1,
      z.t.join (z.hU q q1) (z.hU x hx) (z.hU r r1) (U hb) (U hd) (Ne.symm q2) (Ne.symm r2) (z.rp.through z.t z.hU hx hq hr n3) b1 d1⟩
  · rintro ⟨hU, h | ⟨a, ha, b, hb, c, hc, h1, h2, h3⟩⟩
    · exact z.sub x h
    · obtain ⟨m, hm, m1, m2, m3⟩ := z.rp.med a (z.sub a ha) b (z.sub b hb) c (z.sub c hc)
      rw [z.t.med1 (z.hU a (z.sub a ha)) (z.hU b (z.sub b hb)) (z.hU c (z.sub c hc)) hU (z.hU m hm) h1 h2 h3 m1 m2 m3]
      exact hm
/-- what the living are says which ties there are -/
theorem Tr3.same (z : Tr3 D ever liv ks nb) (y : Tr3 D ever liv' ks' nb') (h : ∀ x, x ∈ liv ↔ x ∈ liv') : (∀ x, x ∈ ks ↔ x ∈ ks') ∧ ∀ u ∈ ks, ∀ v, v ∈ nb u ↔ v ∈ nb' u := by
  have e : ∀ x, x ∈ ks ↔ x ∈ ks' := fun x => by
    rw [z.char x, y.char x, h x]
    unfold Med
    constructor
    · rintro ⟨a, b | ⟨p, hp, q, hq, r, hr, k⟩⟩
      · exact ⟨a, .inl b⟩
      · exact ⟨a, .inr ⟨p, (h p).mp hp, q, (h q).mp hq, r, (h r).mp hr, k⟩⟩
    · rintro ⟨a, b | ⟨p, hp, q, hq, r, hr, k⟩⟩
      · exact ⟨a, .inl b⟩
      · exact ⟨a, .inr ⟨p, (h p).mpr hp, q, (h q).mpr hq, r, (h r).mpr hr, k⟩⟩
  refine ⟨e, fun u hu v => ?_⟩
  rw [z.rp.adj u hu v, y.rp.adj u ((e u).mp hu) v, e v]
  exact ⟨fun ⟨a, b, c⟩ => ⟨a, b, fun x hx => c x ((e x).mpr hx)⟩, fun ⟨a, b, c⟩ => ⟨a, b, fun x hx => c x ((e x).mp hx)⟩⟩
/-! ### the loop of end -/
structure Going (D : Int → Int → Int) (ever : Int) (liv ks0 : List Int) (ks : List Int) (nb : Int → List Int) (went waiting : List Int) : Prop where
  t : TreeU D (Un ever)
  hU : ∀ u ∈ ks, Un ever u
  rp : Rp D ks nb
  nk : ks.Nodup
  nl : liv.Nodup
  sub : ∀ x ∈ liv, x ∈ ks
  red : ∀ x ∈ ks, x ∉ liv → 3 ≤ (nb x).length ∨ x ∈ waiting
  pm : (ks ++ went).Perm ks0
  wl : waiting.length ≤ 1 + 2 * went.length
  e0 : 0 < ever
theorem Tr3.going (z : Tr3 D ever liv ks nb) : Going D ever (liv.erase w) ks ks nb [] [w] :=
  ⟨z.t, z.hU, z.rp, z.nk, z.nl.erase _, fun x hx => z.sub x (List.mem_of_mem_erase hx), fun x hx n => by
    by_cases c : x = w
    · exact .inr (List.mem_singleton.mpr c)
    · exact .inl (z.red x hx fun h => n ((List.mem_erase_of_ne c).mpr h)), by rw [List.append_nil], by simp, z.e0⟩
theorem Going.tr3 {ks0 went : List Int} (z : Going D ever liv ks0 ks nb went []) : Tr3 D ever liv ks nb :=
  ⟨z.t, z.hU, z.rp, z.nk, z.nl, z.sub, fun x hx n => (z.red x hx n).resolve_right (by simp), z.e0⟩
theorem Going.skip {ks0 went wait : List Int} {x : Int} (z : Going D ever liv ks0 ks nb went (wait ++ [x])) (h : ¬ (x ∈ ks ∧ x ∉ liv ∧ (nb x).length < 3)) : Going D ever liv ks0 ks nb went wait :=
  ⟨z.t, z.hU, z.rp, z.nk, z.nl, z.sub, fun y hy n => by
    rcases z.red y hy n with e | e
    · exact .inl e
    · rcases List.mem_append.mp e with e | e
      · exact .inr e
      · rw [List.mem_singleton] at e
        subst e
        refine .inl ?_
        refine Classical.byContradiction fun k => h ⟨hy, n, by omega⟩, z.pm, by
    have := z.wl
    rw [List.length_append, List.length_singleton] at this
    omega, z.e0⟩
theorem Going.go {ks0 went wait : List Int} {x : Int} (z : Going D ever liv ks0 ks nb went (wait ++ [x])) (hx : x ∈ ks) (n : x ∉ liv) (few : (nb x).length < 3) : Going D ever liv ks0 (ks.erase x) (cutN nb x) (went ++ [x]) (wait ++ nb x) := by
  have me : ∀ {u}, u ∈ ks.erase x ↔ u ≠ x ∧ u ∈ ks := fun {u} => z.nk.mem_erase_iff
  refine ⟨z.t, fun u hu => z.hU u (me.mp hu).2, z.rp.cut z.t z.hU z.nk hx few, z.nk.erase _, z.nl, fun y hy => me.mpr ⟨fun e => n (by rw [← e]; exact hy), z.sub y hy⟩, fun y hy ny => ?_, ?_, ?_, z.e0⟩
  · obtain ⟨y1, y2⟩ := me.mp hy
    by_cases c : y ∈ nb x
    · exact .inr (List.mem_append.mpr (.inr c))
    · rcases z.red y y2 ny with e | e
      · refine .inl ?_
        have nx : x ∉ nb y := fun h => c (z.rp.sym z.t z.hU y2 h)
        have e2 : cutN nb x y = nb y := by
          unfold cutN
          rw [List.erase_of_not_mem nx]
          split
          · rename_i a b h
            rw [h] at c
            simp only [List.mem_cons, List.not_mem_nil, or_false, not_or] at c
            rw [if_neg c.1, if_neg c.2]
          · rfl
        rw [e2]
        exact e
      · rcases List.mem_append.mp e with e | e
        · exact .inr (List.mem_append.mpr (.inl e))
        · exact absurd (List.mem_singleton.mp e) y1
  · refine List.Perm.trans ?_ z.pm
    have e := List.perm_cons_erase hx
    refine List.Perm.trans ?_ (e.symm.append_right went)
    rw [← List.append_assoc]
    refine List.Perm.trans (List.perm_append_comm) ?_
    exact List.Perm.refl _
  · have := z.wl
    rw [List.length_append, List.length_singleton] at this
    rw [List.length_append, List.length_append, List.length_singleton]
    omega
end

/-! ### lists of numbers as data -/
theorem dpa_ints {K : PySem.W.Frag} {H : Hp} : ∀ ns : List Int, DpAll K H (ns.map V.int) (ns.map PyData.int)
  | [] => .nil
  | n :: ns => .cons (.int n) (dpa_ints ns)
theorem dp_ints {K : PySem.W.Frag} {H : Hp} {a : Addr} {ns : List Int} (h : SqL K H a (ns.map V.int)) :
    Dp K H (.ref a) (.list (ns.map PyData.int)) := .lst h (dpa_ints ns)
theorem canLay_ints : ∀ ns : List Int, PyData.canLayAll0 (ns.map PyData.int) = true
  | [] => rfl
  | n :: ns => by
    have h := canLay_ints ns
    rw [List.map_cons]
    simp only [PyData.canLayAll0, PyData.canLay0, h, Bool.and_self]
theorem depth_ints : ∀ ns : List Int, PyData.depthAll (ns.map PyData.int) ≤ 0
  | [] => Nat.le_refl _
  | n :: ns => by
    have h := depth_ints ns
    simp only [List.map_cons, PyData.depthAll, PyData.depth]
    omega
theorem shaped_ints (ns : List Int) : SeqAt.shaped (.list (ns.map PyData.int)) = true :=
  shaped_of (by simp only [PyData.canLay0]; exact canLay_ints ns) (by simp only [PyData.depth]; have q := depth_ints ns; omega)
theorem imms_ints : ∀ ns : List Int, imms (ns.map PyData.int) = true
  | [] => rfl
  | n :: ns => by
    rw [List.map_cons]
    simp only [imms, imm, imms_ints ns, Bool.and_self]
theorem ld_ints {K : PySem.W.Frag} {H : Hp} {a : Addr} {ns : List Int} (h : H a = some (.lst (ns.map V.int))) : LD K H a (ns.map PyData.int) := ⟨_, h, dpa_ints ns⟩
theorem eqv_ints : ∀ l r : List Int, PyData.eqvAll (l.map PyData.int) (r.map PyData.int) = decide (l = r)
  | [], [] => rfl
  | [], _ :: _ => by simp [PyData.eqvAll]
  | _ :: _, [] => by simp [PyData.eqvAll]
  | p :: l, q :: r => by
    rw [List.map_cons, List.map_cons]
    simp only [PyData.eqvAll]
    have h := eqv_ints l r
    rw [h, Bool.eq_iff_iff]
    simp [PyData.eqv]
theorem ne_ints {K : PySem.W.Frag} {H : Hp} {Q : VK} {a b : Addr} {l r : List Int} (hx : SqL K H a (l.map V.int)) (hy : SqL K H b (r.map V.int))
    (h : Q (.bl (!decide (l = r))) H) : uNe K (.ref a) (.ref b) H Q := by
  refine i_neD (dp_ints hx) (dp_ints hy) (shaped_ints _) (shaped_ints _) ?_
  simp only [PyData.eqv]
  rw [eqv_ints]
  exact h
theorem ne_ints0 {K : PySem.W.Frag} {H : Hp} {Q : VK} {a b : Addr} {l : List Int} (hx : SqL K H a (l.map V.int)) (hy : H b = some (.lst []))
    (h : Q (.bl (!decide (l = []))) H) : uNe K (.ref a) (.ref b) H Q := ne_ints (r := []) hx (SqL.of hy) h
theorem eq_ints {K : PySem.W.Frag} {H : Hp} {Q : VK} {a b : Addr} {l r : List Int} (hx : SqL K H a (l.map V.int)) (hy : SqL K H b (r.map V.int))
    (h : Q (.bl (decide (l = r))) H) : uEq K (.ref a) (.ref b) H Q := by
  refine i_eqD (dp_ints hx) (dp_ints hy) (shaped_ints _) (shaped_ints _) ?_
  simp only [PyData.eqv]
  rw [eqv_ints]
  exact h
theorem eqv_d2T (p q : Int × Int) : PyData.eqv (d2 p) (d2 q) = decide (p = q) := by
  simp only [PyData.eqv, PyData.eqvAll, Bool.and_true]
  obtain ⟨a, b⟩ := p
  obtain ⟨c, d⟩ := q
  rw [Bool.eq_iff_iff]
  simp
theorem eqv_pairsT : ∀ l r : List (Int × Int), PyData.eqvAll (l.map d2) (r.map d2) = decide (l = r)
  | [], [] => rfl
  | [], _ :: _ => by simp [PyData.eqvAll]
  | _ :: _, [] => by simp [PyData.eqvAll]
  | p :: l, q :: r => by
    rw [List.map_cons, List.map_cons]
    simp only [PyData.eqvAll]
    have h := eqv_pairsT l r
    have h2 := eqv_d2T p q
    rw [h, h2, Bool.eq_iff_iff]
    simp

/-! ### while; three at once -/
theorem i_par3 {i j l : Nat} {tt : TA} {D : Ends} {σ : L2.St} {H : Hp}
    (h : tt σ H fun vs H1 => ∃ u v w, vs = [u, v, w] ∧ D.nx (((σ.set i (some u)).set j (some v)).set l (some w)) H1) : tPar3 i j l tt D σ H := h
theorem i_three {P : V → V → V → Prop} {x y z : V} (h : P x y z) : ∃ u v w, [x, y, z] = [u, v, w] ∧ P u v w := ⟨x, y, z, rfl, h⟩
theorem i_while {c : TT} {tb : TS} {D : Ends} {σ : L2.St} {H : Hp} (W : Nat → L2.St → Hp → Prop) (n : Nat) (h0 : W n σ H)
    (st : ∀ m σ H, W m σ H → c σ H fun b H1 => if b = true then ∃ N : L2.St → Hp → Prop, (∀ σ' H', N σ' H' → ∃ m', m' < m ∧ W m' σ' H') ∧ tb { D with nx := N, ct := N, bk := D.nx } σ H1 else D.nx σ H1) :
    tWhile c tb D σ H := ⟨W, ⟨n, h0⟩, st⟩
theorem i_loop {tb : TS} {D : Ends} {σ : L2.St} {H : Hp} {m : Nat} {W : Nat → L2.St → Hp → Prop}
    (h : tb { D with nx := fun σ' H' => ∃ m', m' < m ∧ W m' σ' H', ct := fun σ' H' => ∃ m', m' < m ∧ W m' σ' H', bk := D.nx } σ H) :
    ∃ N : L2.St → Hp → Prop, (∀ σ' H', N σ' H' → ∃ m', m' < m ∧ W m' σ' H') ∧ tb { D with nx := N, ct := N, bk := D.nx } σ H := ⟨_, fun _ _ h => h, h⟩

/-! ### dicts of numbers, each True; sorted -/
theorem u1 {n : Nat} (h : n + 64 < cLine) : n + 1 < cLine := Nat.lt_of_le_of_lt (Nat.add_le_add_left (by decide) n) h
theorem k_sorted {X : Cx} {K : PySem.W.Frag} (h : X.K = K) : CallR X (.builtin "sorted") (rSortedI K) := h ▸ cr_sortedI
def rListD : List V → Hp → VK → Prop := fun xs H Q => ∃ (a : Addr) (kvs : List (Key × V)), xs = [.ref a] ∧ Rd H a (.dK kvs) ∧
  ∀ p, H p = none → Q (.ref p) (upd H p (.lst (kvs.map fun kv => kV kv.1)))
theorem k_listD {X : Cx} (h : X.calm = true) : CallR X (.type "list") rListD := call_listD h
def kT (n : Int) : Key × V := (.inl n, .bl true)
def addK (ns : List Int) (n : Int) : List Int := if n ∈ ns then ns else ns ++ [n]
theorem put_kT (ns : List Int) (n : Int) : putK (ns.map kT) (.inl n) (.bl true) = (addK ns n).map kT := by
  unfold putK addK
  have e1 : ((ns.map kT).any fun kv => decide (kv.1 = Sum.inl n)) = decide (n ∈ ns) := by
    induction ns with
    | nil => rfl
    | cons m ns ih =>
      rw [List.map_cons, List.any_cons, ih]
      by_cases c : m = n
      · subst c
        simp [kT]
      · have c2 : ¬ n = m := fun z => c z.symm
        simp [kT, c, c2]
  rw [e1]
  by_cases c : n ∈ ns
  · rw [if_pos (decide_eq_true c), if_pos c, List.map_map]
    refine List.map_congr_left fun m _ => ?_
    show (if (kT m).1 = Sum.inl n then ((kT m).1, V.bl true) else kT m) = kT m
    split <;> rfl
  · rw [if_neg (by simp [c]), if_neg c, List.map_append]
    rfl
theorem addK_len (ns : List Int) (n : Int) : (addK ns n).length ≤ ns.length + 1 := by
  unfold addK
  split
  · omega
  · simp
theorem foldK_len : ∀ (ms ns : List Int), (ms.foldl addK ns).length ≤ ns.length + ms.length
  | [], ns => Nat.le_refl _
  | m :: ms, ns => by
    have h := foldK_len ms (addK ns m)
    have h2 := addK_len ns m
    rw [List.foldl_cons, List.length_cons]
    omega
theorem mem_addK {ns : List Int} {n x : Int} : x ∈ addK ns n ↔ x ∈ ns ∨ x = n := by
  unfold addK
  by_cases c : n ∈ ns
  · rw [if_pos c]
    refine ⟨.inl, fun h => h.elim id fun e => by rw [e]; exact c⟩
  · rw [if_neg c, List.mem_append, List.mem_singleton]
theorem mem_foldK {x : Int} : ∀ (ms ns : List Int), x ∈ ms.foldl addK ns ↔ x ∈ ns ∨ x ∈ ms
  | [], ns => by simp
  | m :: ms, ns => by
    rw [List.foldl_cons, mem_foldK ms, mem_addK, List.mem_cons]
    constructor
    · rintro ((h | h) | h)
      · exact .inl h
      · exact .inr (.inl h)
      · exact .inr (.inr h)
    · rintro (h | h | h)
      · exact .inl (.inl h)
      · exact .inl (.inr h)
      · exact .inr h
theorem addK_nd {ns : List Int} {n : Int} (h : ns.Nodup) : (addK ns n).Nodup := by
  unfold addK
  by_cases c : n ∈ ns
  · rw [if_pos c]
    exact h
  · rw [if_neg c]
    refine List.nodup_append.mpr ⟨h, by simp, fun a ha b hb e => ?_⟩
    rw [List.mem_singleton.mp hb] at e
    rw [e] at ha
    exact c ha
theorem foldK_nd : ∀ (ms ns : List Int), ns.Nodup → (ms.foldl addK ns).Nodup
  | [], _, h => h
  | m :: ms, ns, h => foldK_nd ms _ (addK_nd h)
section
variable {K : PySem.W.Frag} {H : Hp} {Q : VK} {a l b : Addr} {ns : List Int} {n : Int} {σ : L2.St} {xs ys : List V} {P : Hp → Prop}
theorem i_sorted (h : SqL K H a (ns.map V.int)) (q : ∀ (ns' : List Int) (p : Addr), ns'.Perm ns → ns'.Pairwise (· ≤ ·) → Fr H p → Q (.ref p) (upd H p (.lst (ns'.map V.int)))) :
    rSortedI K [.ref a] H Q := ⟨a, ns, rfl, h, fun ns' p h1 h2 h3 => q ns' p h1 h2 ⟨h3⟩⟩
theorem i_listD (h : H a = some (.dK (ns.map kT))) (q : New H fun p => Q (.ref p) (upd H p (.lst (ns.map V.int)))) : rListD [.ref a] H Q := by
  refine ⟨a, _, rfl, Rd.of h, fun p hp => ?_⟩
  have e : ((ns.map kT).map fun kv => kV kv.1) = ns.map V.int := by
    rw [List.map_map]
    rfl
  rw [e]
  exact q p hp
theorem i_setD (h : H a = some (.dK (ns.map kT))) (hl : ns.length ≤ 1000000) (q : P (upd H a (.dK ((addK ns n).map kT)))) :
    rSetD (.ref a) (.int n) (.bl true) H P := by
  refine ⟨a, _, rfl, DPut.k (k := .inl n) h (by rw [List.length_map]; exact small_sz hl), ?_⟩
  rw [put_kT]
  exact q
theorem i_dict0 (q : New H fun p => Q (.ref p) (upd (upd H p (.dK [])) p (.dK ([(0 : Int)].map kT)))) : tDisp [(tC (.int 0), tC (.bl true))] σ H Q :=
  fun p hp => ⟨upd_same, [kT 0], rfl, by decide, q p hp⟩
theorem i_extend (h1 : H l = some (.lst xs)) (h2 : H b = some (.lst ys)) (hz : xs.length + ys.length ≤ 1000000) (q : Q .non (upd H l (.lst (xs ++ ys)))) :
    rExtend (.ref l) [.ref b] H Q := ⟨l, b, xs, ys, rfl, rfl, h1, h2, Nat.le_trans hz (by decide), q⟩
end
section
variable {σ : L2.St} {H H1 : Hp} {Q : VK} {d : Addr} {g : TG} {tt : TT} {te td : TE} {vs : List Nat} {o : Obj} {ns : List Int}
def LcB (J : It) (g : TG) (tt : TT) (te : TE) (vs : List Nat) (σ : L2.St) (H1 : Hp) (Q : VK) : Prop := ∀ D, H1 D = none →
    ∃ W : Nat → Nat → Hp → Prop, (∃ m, W 0 m (upd H1 D (.lst []))) ∧ ∀ i m H, W i m H →
      (J.stop i H ∧ Q (.ref D) H) ∨ (J.go i H ∧ ∃ Nx : Hp → Prop,
        (∀ H', Nx H' → ∃ m', m' < m ∧ W (i + 1) m' H') ∧
        ∀ x H', J.yld i H x H' → g x (wipe σ vs) H' fun σ2 H2 => wipe σ2 vs = wipe σ vs ∧ tt σ2 H2 fun b H3 =>
          if b = true then te σ2 H3 fun y H4 => ∃ acc, H4 D = some (.lst acc) ∧ acc.length < sizeLine ∧
            Nx (upd H4 D (.lst (acc ++ [y]))) else Nx H3)
def LcK (x : V) (g : TG) (tt : TT) (te : TE) (vs : List Nat) (σ : L2.St) (H1 : Hp) (Q : VK) : Prop := ∃ d o, x = .ref d ∧
  ((∃ kvs, H1 d = some (.frz o (.dK kvs)) ∧ LcB (Itk d o kvs) g tt te vs σ H1 Q) ∨ ∃ kvs, H1 d = some (.frz o (.dT kvs)) ∧ LcB (Itkt d o kvs) g tt te vs σ H1 Q)
theorem i_lcK (h : td σ H fun x H1 => LcK x g tt te vs σ H1 Q) : tLc (iKeys td) g tt te vs σ H Q := h
theorem i_keyz (hd : H d = some (.frz o (.dK (ns.map kT)))) (Pv : Addr → Nat → Hp → Prop)
    (h0 : ∀ R, Fr H R → Pv R 0 (upd H R (.lst [])))
    (hl : ∀ R i H', Fr H R → Pv R i H' → H' d = some (.frz o (.dK (ns.map kT))))
    (st : ∀ R i n H', Fr H R → ns[i]? = some n → Pv R i H' → g (.int n) (wipe σ vs) H' fun σ2 H2 =>
      wipe σ2 vs = wipe σ vs ∧ tt σ2 H2 fun b H3 => if b = true then te σ2 H3 fun y H4 =>
        ∃ acc, H4 R = some (.lst acc) ∧ acc.length < sizeLine ∧ Pv R (i + 1) (upd H4 R (.lst (acc ++ [y])))
        else Pv R (i + 1) H3)
    (hdn : ∀ R H', Fr H R → Pv R ns.length H' → Q (.ref R) H') : LcK (.ref d) g tt te vs σ H Q := by
  refine ⟨d, o, rfl, .inl ⟨_, hd, fun R hR => ⟨fun i m H' => m = ns.length - i ∧ i ≤ ns.length ∧ Pv R i H', ⟨_, rfl, Nat.zero_le _, h0 R ⟨hR⟩⟩, ?_⟩⟩⟩
  rintro i m H' ⟨rfl, hi, z⟩
  have q := hl R i H' ⟨hR⟩ z
  by_cases c : i < ns.length
  · refine .inr ⟨⟨q, by rw [List.length_map]; exact c⟩, Pv R (i + 1), fun H2 w => ⟨_, by omega, rfl, c, w⟩, ?_⟩
    rintro x H2 ⟨rfl, k, v, e, rfl⟩
    obtain ⟨n, hn, e2⟩ := map_get e
    cases e2
    exact st R i n _ ⟨hR⟩ hn z
  · have e : i = ns.length := by omega
    exact .inl ⟨⟨q, by rw [List.length_map]; omega⟩, hdn R H' ⟨hR⟩ (by rw [← e]; exact z)⟩
end

/-! ### dicts whose keys are numbers, whatever they hold -/
theorem k_fldaug {X : Cx} {K : PySem.W.Frag} {op : Operator} {rd : V → V → Hp → VK → Prop} {o value : Expr} {f : Str} {pos tpos : Pos} {ta tv : TE} (h : X.K = K) (ha : PE X o ta) (hv : PE X value tv) (hop : InOp X op rd) :
    PS X (.AugAssign (.Attribute o f tpos) op value pos) (sFldAug K ta tv rd f) := h ▸ ps_fldaug ha hv hop
theorem k_sortedP {X : Cx} {K : PySem.W.Frag} (h : X.K = K) : CallR X (.builtin "sorted") (rSortedPO K) := h ▸ cr_sortedPO
section
variable {K : PySem.W.Frag} {σ : L2.St} {H H1 : Hp} {Q : VK} {D : Ends} {a d : Addr} {kvs : List (Key × V)} {n : Int} {v : V} {td ty tv : TE} {P : Hp → Prop}
def FldA (K : PySem.W.Frag) (x : V) (tv : TE) (rd : V → V → Hp → VK → Prop) (f : Str) (D : Ends) (σ : L2.St) (H1 : Hp) : Prop :=
  ∃ a C dx fs v, x = .ref a ∧ H1 a = some (.ins C dx fs) ∧ Cls K C ∧ NoAttr K C f ∧ fs.lookup f = some v ∧
  tv σ H1 fun y H2 => rd v y H2 fun z H3 => ∃ dx' fs', H3 a = some (.ins C dx' fs') ∧ fs'.length < 1000 ∧ D.nx σ (upd H3 a (.ins C dx' (putF f z fs')))
theorem i_fldaug {rd : V → V → Hp → VK → Prop} {f : Str} (h : td σ H fun x H1 => FldA K x tv rd f D σ H1) : sFldAug K td tv rd f D σ H := h
theorem i_fldaR {rd : V → V → Hp → VK → Prop} {f : Str} {C dx : Addr} {fs : List (Str × V)} {v : V} (ho : H a = some (.ins C dx fs)) (c : Cls K C) (nn : NoAttr K C f) (hl : fs.lookup f = some v)
    (h : tv σ H fun y H2 => rd v y H2 fun z H3 => ∃ dx' fs', H3 a = some (.ins C dx' fs') ∧ fs'.length < 1000 ∧ D.nx σ (upd H3 a (.ins C dx' (putF f z fs')))) : FldA K (.ref a) tv rd f D σ H := ⟨a, C, dx, fs, v, rfl, ho, c, nn, hl, h⟩
def DG (x y : V) (H : Hp) (Q : VK) : Prop := ∃ a v, x = .ref a ∧ DGet H a y (some v) ∧ Q v H
theorem i_dget (h : td σ H fun x H1 => ty σ H1 fun y H2 => DG x y H2 Q) : tDGet td ty σ H Q := h
theorem i_dg (hd : H a = some (.dK kvs)) (hv : valV kvs (.inl n) = some v) (q : Q v H) : DG (.ref a) (.int n) H Q :=
  ⟨a, v, rfl, by
    have e := DGet.k (k := .inl n) hd
    rw [hv] at e
    exact e, q⟩
def DIn (y x : V) (H : Hp) (Q : VK) : Prop := ∃ a o, x = .ref a ∧ DGet H a y o ∧ Q (.bl o.isSome) H
def DNin (y x : V) (H : Hp) (Q : VK) : Prop := ∃ a o, x = .ref a ∧ DGet H a y o ∧ Q (.bl (!o.isSome)) H
theorem i_din (h : ty σ H fun y H1 => td σ H1 fun x H2 => DIn y x H2 Q) : tDIn ty td σ H Q := h
theorem i_dnin (h : ty σ H fun y H1 => td σ H1 fun x H2 => DNin y x H2 Q) : tDNotIn ty td σ H Q := h
theorem i_di (hd : H a = some (.dK kvs)) (q : Q (.bl (valV kvs (.inl n)).isSome) H) : DIn (.int n) (.ref a) H Q := ⟨a, _, rfl, DGet.k (k := .inl n) hd, q⟩
theorem i_dni (hd : H a = some (.dK kvs)) (q : Q (.bl (!(valV kvs (.inl n)).isSome)) H) : DNin (.int n) (.ref a) H Q := ⟨a, _, rfl, DGet.k (k := .inl n) hd, q⟩
theorem i_setK (hd : H a = some (.dK kvs)) (hl : kvs.length ≤ 1000000) (q : P (upd H a (.dK (putK kvs (.inl n) v)))) : rSetD (.ref a) (.int n) v H P :=
  ⟨a, _, rfl, DPut.k (k := .inl n) hd (small_sz hl), q⟩
def DP1 (x : V) (ty : TE) (σ : L2.St) (H1 : Hp) (Q : VK) : Prop := ∃ a, x = .ref a ∧ IsD H1 a ∧ ty σ H1 fun y H2 => ∃ kvs k v, H2 a = some (.dK kvs) ∧ y = kV k ∧ valV kvs k = some v ∧ Q v (upd H2 a (.dK (dropK kvs k)))
def DP2 (a : Addr) (y : V) (H2 : Hp) (Q : VK) : Prop := ∃ kvs k v, H2 a = some (.dK kvs) ∧ y = kV k ∧ valV kvs k = some v ∧ Q v (upd H2 a (.dK (dropK kvs k)))
theorem i_dpop (h : td σ H fun x H1 => DP1 x ty σ H1 Q) : tDPop1 td ty σ H Q := h
theorem i_dp1 (hd : H a = some (.dK kvs)) (h : ty σ H fun y H2 => DP2 a y H2 Q) : DP1 (.ref a) ty σ H Q := ⟨a, rfl, .inl ⟨_, Rd.of hd⟩, h⟩
theorem i_dp2 (hd : H a = some (.dK kvs)) (hv : valV kvs (.inl n) = some v) (q : Q v (upd H a (.dK (dropK kvs (.inl n))))) : DP2 a (.int n) H Q := ⟨_, .inl n, v, hd, rfl, hv, q⟩
theorem i_lockE {t : TE} (h : H d = some (.dK kvs)) (k : ∀ od, t σ (upd H d (.frz od (.dK kvs))) fun v H' => H' d = some (.frz od (.dK kvs)) ∧ Q v (upd H' d (.dK kvs))) : tLockE t σ H Q := ⟨d, _, h, trivial, k⟩
theorem i_remove {l : Addr} {ns : List Int} {k : Int} (hl : H l = some (.lst (ns.map V.int))) (hk : k ∈ ns) (q : Q .non (upd H l (.lst ((ns.erase k).map V.int)))) : rRemI (.ref l) [.int k] H Q := by
  obtain ⟨j, j1, j2, j3, j4⟩ := first_at hk
  refine ⟨l, ns, k, j, rfl, rfl, hl, j2, j3, ?_⟩
  rw [j4]
  exact q
theorem i_popV {l : Addr} {xs : List V} {y : V} (hl : H l = some (.lst (xs ++ [y]))) (q : Q y (upd H l (.lst xs))) : rPop (.ref l) [] H Q := by
  refine ⟨l, _, y, rfl, rfl, hl, ?_, ?_⟩
  · rw [List.length_append, List.length_singleton, Nat.add_sub_cancel]
    exact List.getElem?_concat_length
  · rw [List.dropLast_concat]
    exact q
theorem flat_ints (ns : List Int) : (ns.map V.int).all flatV = true := by
  rw [List.all_eq_true]
  intro v hv
  obtain ⟨n, _, rfl⟩ := List.mem_map.mp hv
  rfl
theorem inV_ints {k : Int} : ∀ ns : List Int, inV (.int k) (ns.map V.int) = decide (k ∈ ns)
  | [] => rfl
  | n :: ns => by
    have ih := inV_ints (k := k) ns
    unfold inV at ih ⊢
    rw [List.map_cons, List.any_cons, ih]
    by_cases c : n = k
    · subst c
      simp [eqV]
    · have c2 : ¬ k = n := fun z => c z.symm
      simp [eqV, c, c2]
theorem i_inI {l : Addr} {ns : List Int} {k : Int} (hl : SqL K H l (ns.map V.int)) (q : Q (.bl (decide (k ∈ ns))) H) : rIn K false (.int k) (.ref l) H Q := by
  refine ⟨l, _, rfl, .inl hl, rfl, flat_ints ns, ?_⟩
  rw [inV_ints]
  exact q
theorem i_ninI {l : Addr} {ns : List Int} {k : Int} (hl : SqL K H l (ns.map V.int)) (q : Q (.bl (!decide (k ∈ ns))) H) : rIn K true (.int k) (.ref l) H Q := by
  refine ⟨l, _, rfl, .inl hl, rfl, flat_ints ns, ?_⟩
  rw [inV_ints]
  exact q
end
theorem kp_unl {H3 H4 : Hp} {d : Addr} {u v : HO} (h : H3 d = some u) (nu : ¬ Fix u) (k : Kp [] (upd H3 d v) H4) : Kp [] H3 (upd H4 d u) := by
  refine ⟨fun a o e n => ?_, fun a o e f => ?_, fun a o e => ?_⟩
  · by_cases z : a = d
    · subst z
      rw [h] at e
      cases e
      exact upd_same
    · rw [upd_ne z]
      exact k.at_ a o (by rw [upd_ne z]; exact e) not_nil
  · have z : a ≠ d := by
      intro z
      subst z
      rw [h] at e
      cases e
      exact nu f
    rw [upd_ne z]
    exact k.at_ a o (by rw [upd_ne z]; exact e) not_nil
  · by_cases z : a = d
    · exact ⟨u, by rw [z]; exact upd_same⟩
    · rw [upd_ne z]
      exact ⟨o, k.at_ a o (by rw [upd_ne z]; exact e) not_nil⟩
section
variable {K : PySem.W.Frag} {σ : L2.St} {H H1 : Hp} {Q : VK} {d : Addr} {g g1 : TG} {tt tt1 : TT} {te td te1 : TE} {vs vs1 : List Nat} {o : Obj} {kvs : List (Key × V)}
/-- a comprehension over the keys -/
theorem i_keyG (hd : H d = some (.frz o (.dK kvs))) (Pv : Addr → Nat → Hp → Prop)
    (h0 : ∀ R, Fr H R → Pv R 0 (upd H R (.lst [])))
    (hl : ∀ R i H', Fr H R → Pv R i H' → H' d = some (.frz o (.dK kvs)))
    (st : ∀ R i k v H', Fr H R → kvs[i]? = some (k, v) → Pv R i H' → g (kV k) (wipe σ vs) H' fun σ2 H2 =>
      wipe σ2 vs = wipe σ vs ∧ tt σ2 H2 fun b H3 => if b = true then te σ2 H3 fun y H4 =>
        ∃ acc, H4 R = some (.lst acc) ∧ acc.length < sizeLine ∧ Pv R (i + 1) (upd H4 R (.lst (acc ++ [y])))
        else Pv R (i + 1) H3)
    (hdn : ∀ R H', Fr H R → Pv R kvs.length H' → Q (.ref R) H') : LcK (.ref d) g tt te vs σ H Q := by
  refine ⟨d, o, rfl, .inl ⟨_, hd, fun R hR => ⟨fun i m H' => m = kvs.length - i ∧ i ≤ kvs.length ∧ Pv R i H', ⟨_, rfl, Nat.zero_le _, h0 R ⟨hR⟩⟩, ?_⟩⟩⟩
  rintro i m H' ⟨rfl, hi, z⟩
  have q := hl R i H' ⟨hR⟩ z
  by_cases c : i < kvs.length
  · refine .inr ⟨⟨q, c⟩, Pv R (i + 1), fun H2 w => ⟨_, by omega, rfl, c, w⟩, ?_⟩
    rintro x H2 ⟨rfl, k, v, e, rfl⟩
    exact st R i k v _ ⟨hR⟩ e z
  · have e : i = kvs.length := by omega
    exact .inl ⟨⟨q, by omega⟩, hdn R H' ⟨hR⟩ (by rw [← e]; exact z)⟩
/-- the walk of the second clause of a comprehension -/
def In2 (J1 : It) (g1 : TG) (tt1 : TT) (te : TE) (vs1 : List Nat) (σ2 : L2.St) (D : Addr) (Nx : Hp → Prop) (H4 : Hp) : Prop := ∃ W1 : Nat → Nat → Hp → Prop, (∃ m, W1 0 m H4) ∧ ∀ j k H, W1 j k H →
      (J1.stop j H ∧ Nx H) ∨ (J1.go j H ∧ ∃ Nx1 : Hp → Prop, (∀ H', Nx1 H' → ∃ k', k' < k ∧ W1 (j + 1) k' H') ∧ ∀ x H', J1.yld j H x H' → g1 x (wipe σ2 vs1) H' fun σ3 H5 => wipe σ3 vs1 = wipe σ2 vs1 ∧ tt1 σ3 H5 fun b H6 =>
        if b = true then te σ3 H6 fun y H7 => ∃ acc, H7 D = some (.lst acc) ∧ acc.length < sizeLine ∧ Nx1 (upd H7 D (.lst (acc ++ [y]))) else Nx1 H6)
def Lc2I (x : V) (g : TG) (tt : TT) (wi1 : TI) (g1 : TG) (tt1 : TT) (te : TE) (vs vs1 : List Nat) (σ : L2.St) (H1 : Hp) (Q : VK) : Prop := ∃ d o kvs, x = .ref d ∧ H1 d = some (.frz o (.dK kvs)) ∧
  ∀ D, H1 D = none → ∃ W : Nat → Nat → Hp → Prop, (∃ m, W 0 m (upd H1 D (.lst []))) ∧ ∀ i m H, W i m H →
  ((Iti d o kvs).stop i H ∧ Q (.ref D) H) ∨ ((Iti d o kvs).go i H ∧ ∃ Nx : Hp → Prop, (∀ H', Nx H' → ∃ m', m' < m ∧ W (i + 1) m' H') ∧ ∀ x H', (Iti d o kvs).yld i H x H' → g x (wipe σ vs) H' fun σ2 H2 => wipe σ2 vs = wipe σ vs ∧ tt σ2 H2 fun b H3 =>
    if b = true then wi1 σ2 H3 fun J1 H4 => In2 J1 g1 tt1 te vs1 σ2 D Nx H4 else Nx H3)
theorem i_lc2I {wi1 : TI} (h : td σ H fun x H1 => Lc2I x g tt wi1 g1 tt1 te vs vs1 σ H1 Q) : tLc2 (iItems td) g tt wi1 g1 tt1 te vs vs1 σ H Q := h
theorem i_itemG {wi1 : TI} (hd : H d = some (.frz o (.dK kvs))) (Pv : Addr → Nat → Hp → Prop)
    (h0 : ∀ R, Fr H R → Pv R 0 (upd H R (.lst [])))
    (hl : ∀ R i H', Fr H R → Pv R i H' → H' d = some (.frz o (.dK kvs)))
    (st : ∀ R i k v T H', Fr H R → kvs[i]? = some (k, v) → Pv R i H' → Fr H' T → g (.ref T) (wipe σ vs) (upd H' T (.tup [kV k, v])) fun σ2 H2 =>
      wipe σ2 vs = wipe σ vs ∧ tt σ2 H2 fun b H3 => if b = true then wi1 σ2 H3 fun J1 H4 => In2 J1 g1 tt1 te vs1 σ2 R (Pv R (i + 1)) H4 else Pv R (i + 1) H3)
    (hdn : ∀ R H', Fr H R → Pv R kvs.length H' → Q (.ref R) H') : Lc2I (.ref d) g tt wi1 g1 tt1 te vs vs1 σ H Q := by
  refine ⟨d, o, _, rfl, hd, fun R hR => ⟨fun i m H' => m = kvs.length - i ∧ i ≤ kvs.length ∧ Pv R i H', ⟨_, rfl, Nat.zero_le _, h0 R ⟨hR⟩⟩, ?_⟩⟩
  rintro i m H' ⟨rfl, hi, z⟩
  have q := hl R i H' ⟨hR⟩ z
  by_cases c : i < kvs.length
  · refine .inr ⟨⟨q, c⟩, Pv R (i + 1), fun H2 w => ⟨_, by omega, rfl, c, w⟩, ?_⟩
    rintro x H2 ⟨T, k, v, e, rfl, hT, rfl⟩
    exact st R i k v T _ ⟨hR⟩ e z ⟨hT⟩
  · have e : i = kvs.length := by omega
    exact .inl ⟨⟨q, by omega⟩, hdn R H' ⟨hR⟩ (by rw [← e]; exact z)⟩
theorem i_in2L {R : Addr} {Nx : Hp → Prop} {σ2 : L2.St} (h : te1 σ2 H fun x H1 => ∃ a, x = .ref a ∧ (∃ xs, SqL K H1 a xs) ∧ In2 (Itl K a) g1 tt1 te vs1 σ2 R Nx H1) :
    iList K te1 σ2 H fun J1 H4 => In2 J1 g1 tt1 te vs1 σ2 R Nx H4 := h
theorem i_inL {a R : Addr} {xs : List V} {Nx : Hp → Prop} {σ2 : L2.St} (hs : SqL K H a xs) (P1 : Nat → Hp → Prop) (h0 : P1 0 H)
    (hl : ∀ j H', j ≤ xs.length → P1 j H' → SqL K H' a xs)
    (st : ∀ j x H', xs[j]? = some x → P1 j H' → g1 x (wipe σ2 vs1) H' fun σ3 H5 => wipe σ3 vs1 = wipe σ2 vs1 ∧ tt1 σ3 H5 fun b H6 =>
        if b = true then te σ3 H6 fun y H7 => ∃ acc, H7 R = some (.lst acc) ∧ acc.length < sizeLine ∧ P1 (j + 1) (upd H7 R (.lst (acc ++ [y]))) else P1 (j + 1) H6)
    (hdn : ∀ H', P1 xs.length H' → Nx H') : ∃ a', V.ref a = .ref a' ∧ (∃ xs, SqL K H a' xs) ∧ In2 (Itl K a') g1 tt1 te vs1 σ2 R Nx H := by
  refine ⟨a, rfl, ⟨_, hs⟩, fun i m H' => m = xs.length - i ∧ i ≤ xs.length ∧ P1 i H', ⟨_, rfl, Nat.zero_le _, h0⟩, ?_⟩
  rintro i m H' ⟨rfl, hi, z⟩
  have q := hl i H' hi z
  by_cases c : i < xs.length
  · refine .inr ⟨⟨xs, xs[i], q, List.getElem?_eq_getElem c⟩, P1 (i + 1), fun H2 w => ⟨_, by omega, rfl, c, w⟩, fun x H2 y => ?_⟩
    obtain ⟨e, y⟩ := y
    subst e
    exact st i x _ (y xs q) z
  · have e : i = xs.length := by omega
    subst e
    exact .inl ⟨⟨xs, q, Nat.le_refl _⟩, hdn _ z⟩
/-- a dict comprehension over the keys -/
def DcB (J : It) (g : TG) (tt : TT) (tk tv : TE) (vs : List Nat) (σ : L2.St) (H1 : Hp) (Q : VK) : Prop := ∀ D, H1 D = none → ∃ W : Nat → Nat → Hp → Prop, (∃ m, W 0 m (upd H1 D (.dK []))) ∧ ∀ i m H, W i m H →
  (J.stop i H ∧ Q (.ref D) H) ∨ (J.go i H ∧ ∃ Nx : Hp → Prop, (∀ H', Nx H' → ∃ m', m' < m ∧ W (i + 1) m' H') ∧ ∀ x H', J.yld i H x H' → g x (wipe σ vs) H' fun σ2 H2 => wipe σ2 vs = wipe σ vs ∧ tt σ2 H2 fun b H3 =>
    if b = true then tk σ2 H3 fun y H4 => tv σ2 H4 fun z H5 => ∃ kvs k, y = kV k ∧ H5 D = some (.dK kvs) ∧ kvs.length < sizeLine ∧ Nx (upd H5 D (.dK (putK kvs k z))) else Nx H3)
def DcK (x : V) (g : TG) (tt : TT) (tk tv : TE) (vs : List Nat) (σ : L2.St) (H1 : Hp) (Q : VK) : Prop := ∃ d o, x = .ref d ∧
  ((∃ kvs, H1 d = some (.frz o (.dK kvs)) ∧ DcB (Itk d o kvs) g tt tk tv vs σ H1 Q) ∨ ∃ kvs, H1 d = some (.frz o (.dT kvs)) ∧ DcB (Itkt d o kvs) g tt tk tv vs σ H1 Q)
theorem i_dcK {tk tv : TE} (h : td σ H fun x H1 => DcK x g tt tk tv vs σ H1 Q) : tDc (iKeys td) g tt tk tv vs σ H Q := h
theorem i_dkeyG {tk tv : TE} (hd : H d = some (.frz o (.dK kvs))) (Pv : Addr → Nat → Hp → Prop)
    (h0 : ∀ R, Fr H R → Pv R 0 (upd H R (.dK [])))
    (hl : ∀ R i H', Fr H R → Pv R i H' → H' d = some (.frz o (.dK kvs)))
    (st : ∀ R i k v H', Fr H R → kvs[i]? = some (k, v) → Pv R i H' → g (kV k) (wipe σ vs) H' fun σ2 H2 =>
      wipe σ2 vs = wipe σ vs ∧ tt σ2 H2 fun b H3 => if b = true then tk σ2 H3 fun y H4 => tv σ2 H4 fun z H5 => ∃ kvs k, y = kV k ∧ H5 R = some (.dK kvs) ∧ kvs.length < sizeLine ∧ Pv R (i + 1) (upd H5 R (.dK (putK kvs k z))) else Pv R (i + 1) H3)
    (hdn : ∀ R H', Fr H R → Pv R kvs.length H' → Q (.ref R) H') : DcK (.ref d) g tt tk tv vs σ H Q := by
  refine ⟨d, o, rfl, .inl ⟨_, hd, fun R hR => ⟨fun i m H' => m = kvs.length - i ∧ i ≤ kvs.length ∧ Pv R i H', ⟨_, rfl, Nat.zero_le _, h0 R ⟨hR⟩⟩, ?_⟩⟩⟩
  rintro i m H' ⟨rfl, hi, z⟩
  have q := hl R i H' ⟨hR⟩ z
  by_cases c : i < kvs.length
  · refine .inr ⟨⟨q, c⟩, Pv R (i + 1), fun H2 w => ⟨_, by omega, rfl, c, w⟩, ?_⟩
    rintro x H2 ⟨rfl, k, v, e, rfl⟩
    exact st R i k v _ ⟨hR⟩ e z
  · have e : i = kvs.length := by omega
    exact .inl ⟨⟨q, by omega⟩, hdn R H' ⟨hR⟩ (by rw [← e]; exact z)⟩
end
--%%M
local macro_rules | `(tactic| walk_at "g_own") => `(tactic| first
  | (with_reducible refine i_fldaug ?_)
  | ((with_reducible apply i_fldaR ?h ?c ?n ?g ?_); (case h => walk_at "g_hp"); (case c => with_reducible assumption); (case n => with_reducible assumption); (case g => exact rfl))
  | (with_reducible refine i_dget ?_)
  | (with_reducible refine i_din ?_)
  | (with_reducible refine i_dnin ?_)
  | (with_reducible refine i_dpop ?_)
  | ((with_reducible apply i_di ?h ?_); (case h => walk_at "g_hp"))
  | ((with_reducible apply i_dni ?h ?_); (case h => walk_at "g_hp"))
  | ((with_reducible apply i_dp1 ?h ?_); (case h => walk_at "g_hp"))
  | (with_reducible refine i_lc2I ?_)
  | (with_reducible refine i_lcK ?_)
  | (with_reducible refine i_dcK ?_)
  | ((with_reducible apply i_inI ?h ?_); (case h => walk_at "g_sq"))
  | ((with_reducible apply i_ninI ?h ?_); (case h => walk_at "g_sq")))
--%%E

/-! ### lists of pairs, sorted -/
def PrsAt (H : Hp) : List V → List (Int × Int) → Prop
  | [], [] => True
  | x :: xs, q :: ps => (∃ t, x = .ref t ∧ H t = some (.tup [.int q.1, .int q.2])) ∧ PrsAt H xs ps
  | _, _ => False
theorem PrsAt.len {H : Hp} : ∀ {xs : List V} {ps : List (Int × Int)}, PrsAt H xs ps → xs.length = ps.length
  | [], [], _ => rfl
  | _ :: _, _ :: _, h => by rw [List.length_cons, List.length_cons, PrsAt.len h.2]
  | [], _ :: _, h => h.elim
  | _ :: _, [], h => h.elim
theorem PrsAt.kp {H H' : Hp} {ws : List Addr} (k : Kp ws H H') : ∀ {xs : List V} {ps : List (Int × Int)}, PrsAt H xs ps → PrsAt H' xs ps
  | [], [], _ => trivial
  | _ :: _, _ :: _, ⟨⟨t, e, h⟩, r⟩ => ⟨⟨t, e, k.fix _ _ h trivial⟩, PrsAt.kp k r⟩
  | [], _ :: _, h => h.elim
  | _ :: _, [], h => h.elim
theorem PrsAt.snoc {H : Hp} {t : Addr} {q : Int × Int} (e : H t = some (.tup [.int q.1, .int q.2])) : ∀ {xs : List V} {ps : List (Int × Int)}, PrsAt H xs ps → PrsAt H (xs ++ [.ref t]) (ps ++ [q])
  | [], [], _ => ⟨⟨t, rfl, e⟩, trivial⟩
  | _ :: _, _ :: _, ⟨a, r⟩ => ⟨a, PrsAt.snoc e r⟩
  | [], _ :: _, h => h.elim
  | _ :: _, [], h => h.elim
theorem PrsAt.dpa {K : PySem.W.Frag} {H : Hp} : ∀ {xs : List V} {ps : List (Int × Int)}, PrsAt H xs ps → DpAll K H xs (ps.map d2)
  | [], [], _ => .nil
  | _ :: _, q :: _, ⟨⟨t, e, h⟩, r⟩ => by
    subst e
    exact .cons (dp_mk2 (.inl (Rd.of h))) (PrsAt.dpa r)
  | [], _ :: _, h => h.elim
  | _ :: _, [], h => h.elim
def kOfO : Option HO → Int × Int
  | some (.tup [.int a, .int b]) => (a, b)
  | _ => (0, 0)
def kOf (H : Hp) (x : V) : Int × Int :=
  match x with
  | .ref t => kOfO (H t)
  | _ => (0, 0)
theorem kOf_at {H : Hp} {t : Addr} {q : Int × Int} (h : H t = some (.tup [.int q.1, .int q.2])) : kOf H (.ref t) = q := by
  show kOfO (H t) = q
  rw [h]
  rfl
theorem PrsAt.key {H : Hp} : ∀ {xs : List V} {ps : List (Int × Int)}, PrsAt H xs ps → ∀ x ∈ xs, ∃ t, x = .ref t ∧ H t = some (.tup [.int (kOf H x).1, .int (kOf H x).2])
  | [], [], _, x, hx => by cases hx
  | y :: _, q :: _, ⟨⟨t, e, h⟩, r⟩, x, hx => by
    rcases List.mem_cons.mp hx with z | z
    · subst z
      subst e
      refine ⟨t, rfl, ?_⟩
      rw [kOf_at h]
      exact h
    · exact PrsAt.key r x z
  | [], _ :: _, h, _, _ => h.elim
  | _ :: _, [], h, _, _ => h.elim
theorem PrsAt.map {H : Hp} : ∀ {xs : List V} {ps : List (Int × Int)}, PrsAt H xs ps → xs.map (kOf H) = ps
  | [], [], _ => rfl
  | y :: _, q :: _, ⟨⟨t, e, h⟩, r⟩ => by
    subst e
    rw [List.map_cons, PrsAt.map r, kOf_at h]
  | [], _ :: _, h => h.elim
  | _ :: _, [], h => h.elim
theorem PrsAt.of {H : Hp} : ∀ {xs : List V}, (∀ x ∈ xs, ∃ t, x = .ref t ∧ H t = some (.tup [.int (kOf H x).1, .int (kOf H x).2])) → PrsAt H xs (xs.map (kOf H))
  | [], _ => trivial
  | x :: xs, h => ⟨h x List.mem_cons_self, PrsAt.of fun y hy => h y (List.mem_cons_of_mem _ hy)⟩
def ltQ (p q : Int × Int) : Prop := p.1 < q.1 ∨ (p.1 = q.1 ∧ p.2 < q.2)
/-- sorted of a list of pairs no two of which are alike -/
theorem i_sortedP {K : PySem.W.Frag} {H : Hp} {Q : VK} {a : Addr} {xs : List V} {ps : List (Int × Int)} (h : H a = some (.lst xs)) (r : PrsAt H xs ps) (nd : ps.Nodup)
    (q : ∀ (rs : List (Int × Int)) (R : Addr) (H' : Hp), Fr H R → Kp [] H H' → LD K H' R (rs.map d2) → rs.Perm ps → rs.Pairwise ltQ → Q (.ref R) H') : rSortedPO K [.ref a] H Q := by
  refine ⟨a, xs, kOf H, rfl, SqL.of h, r.key, fun ys p s1 s2 hp => ?_⟩
  have pm := s2.perm
  have key : ∀ x ∈ ys, ∃ t, x = .ref t ∧ H t = some (.tup [.int (kOf H x).1, .int (kOf H x).2]) := fun x hx => r.key x (pm.mem_iff.mp hx)
  have pm2 : (ys.map (kOf H)).Perm ps := by
    have e := pm.map (kOf H)
    rw [r.map] at e
    exact e
  have k : Kp [] H (upd H p (.lst ys)) := Kp.new ⟨hp⟩
  refine q (ys.map (kOf H)) p _ ⟨hp⟩ k ⟨ys, upd_same, (PrsAt.kp k (PrsAt.of key)).dpa⟩ pm2 ?_
  have nd2 : (ys.map (kOf H)).Nodup := pm2.nodup_iff.mpr nd
  have s3 : (ys.map (kOf H)).Pairwise fun p q => SrtO.lexB q p = false := List.pairwise_map.mpr s1
  refine (s3.and nd2).imp fun {p q} z => ?_
  have z1 := SrtO.lexB_no.mp z.1
  have z2 : p ≠ q := z.2
  unfold ltQ
  by_cases c : p.1 = q.1
  · refine .inr ⟨c, ?_⟩
    by_cases c2 : p.2 = q.2
    · exact absurd (Prod.ext c c2) z2
    · omega
  · omega
theorem pw_uniq {α : Type} {lt : α → α → Prop} (irr : ∀ a, ¬ lt a a) (asym : ∀ a b, lt a b → ¬ lt b a) : ∀ {l m : List α}, l.Pairwise lt → m.Pairwise lt → (∀ x, x ∈ l ↔ x ∈ m) → l = m
  | [], [], _, _, _ => rfl
  | [], b :: m, _, _, h => absurd ((h b).mpr List.mem_cons_self) (by simp)
  | a :: l, [], _, _, h => absurd ((h a).mp List.mem_cons_self) (by simp)
  | a :: l, b :: m, h1, h2, h => by
    rw [List.pairwise_cons] at h1 h2
    have e : a = b := by
      rcases List.mem_cons.mp ((h a).mp List.mem_cons_self) with e | e
      · exact e
      rcases List.mem_cons.mp ((h b).mpr List.mem_cons_self) with e2 | e2
      · exact e2.symm
      exact absurd (h2.1 a e) (asym _ _ (h1.1 b e2))
    subst e
    congr 1
    refine pw_uniq irr asym h1.2 h2.2 fun x => ?_
    constructor
    · intro hx
      rcases List.mem_cons.mp ((h x).mp (List.mem_cons_of_mem _ hx)) with e | e
      · subst e
        exact absurd (h1.1 _ hx) (irr _)
      · exact e
    · intro hx
      rcases List.mem_cons.mp ((h x).mpr (List.mem_cons_of_mem _ hx)) with e | e
      · subst e
        exact absurd (h2.1 _ hx) (irr _)
      · exact e
theorem ltQ_uniq {l m : List (Int × Int)} (h1 : l.Pairwise ltQ) (h2 : m.Pairwise ltQ) (h : ∀ x, x ∈ l ↔ x ∈ m) : l = m :=
  pw_uniq (fun a z => by unfold ltQ at z; omega) (fun a b z y => by unfold ltQ at z y; omega) h1 h2 h
theorem lt_uniq {l m : List Int} (h1 : l.Pairwise (· < ·)) (h2 : m.Pairwise (· < ·)) (h : ∀ x, x ∈ l ↔ x ∈ m) : l = m :=
  pw_uniq (fun a z => Int.lt_irrefl _ z) (fun a b z y => absurd (Int.lt_trans z y) (Int.lt_irrefl _)) h1 h2 h
theorem strict_of {l m : List Int} (p : l.Perm m) (nd : m.Nodup) (h : l.Pairwise (· ≤ ·)) : l.Pairwise (· < ·) := by
  have nd2 : l.Nodup := p.nodup_iff.mpr nd
  refine (h.and nd2).imp fun {a b} z => ?_
  have z2 : a ≠ b := z.2
  omega

/-! ### pots and draws -/
def sp_law_pot (K : PySem.W.Frag) : Sp := fun vs H Q _ => ∃ (a : Addr) (ns : List Int) (i : Nat),
  vs = [.ref a, .int i] ∧ SqL K H a (ns.map V.int) ∧ i ≤ 100 ∧
  ∀ p H', Fr H p → Kp [] H H' → PotAt H' p → Q (.ref p) H'
theorem sc_law_pot : FnScope ["_law_script", "_law_k", "_law_cell"] ["_law_script", "_law_k"] (defScope s_law_pot) :=
  ⟨rfl, rfl, rfl, by decide +kernel, rfl, by decide +kernel, by decide +kernel⟩
theorem ok_law_pot {P : Program} {w : World} {K : PySem.W.Frag} {mg : Str → Option Value} {base : Heap} (T : Txt K mg) :
    FnG P w K mg base 1 T.a_law_pot T.d_law_pot ["_law_script", "_law_k"] (sp_law_pot K) := by
  refine okD T.F_law_pot sc_law_pot (fun vs H Q E h => ?_) (fun cdv A outer s H vs Q E hr h => ?_)
  · first
      | (obtain ⟨_, rfl, _⟩ := h; rfl)
      | (obtain ⟨_, _, rfl, _⟩ := h; rfl)
      | (obtain ⟨_, _, _, rfl, _⟩ := h; rfl)
      | (obtain ⟨_, _, _, _, rfl, _⟩ := h; rfl)
      | (obtain ⟨_, _, _, _, _, rfl, _⟩ := h; rfl)
      | (obtain ⟨_, _, _, _, _, _, rfl, _⟩ := h; rfl)
      | (obtain ⟨_, _, _, _, _, _, _, rfl, _⟩ := h; rfl)
      | (obtain ⟨_, _, _, _, _, _, _, _, rfl, _⟩ := h; rfl)
      | (obtain ⟨_, _, _, _, _, _, _, _, _, rfl, _⟩ := h; rfl)
      | (obtain ⟨_, _, _, _, _, _, _, _, _, _, rfl, _⟩ := h; rfl)
      | (obtain ⟨_, _, _, _, _, _, _, _, _, _, _, rfl, _⟩ := h; rfl)
      | (obtain ⟨_, _, _, _, _, _, _, _, _, _, _, _, rfl, _⟩ := h; rfl)
      | (obtain ⟨_, _, _, _, _, _, _, _, _, _, _, _, _, rfl, _⟩ := h; rfl)
      | (obtain ⟨_, _, _, _, _, _, _, _, _, _, _, _, _, _, rfl, _⟩ := h; rfl)
      | (obtain ⟨_, _, _, _, _, _, _, _, _, _, _, _, _, _, _, rfl, _⟩ := h; rfl)
      | (obtain ⟨_, _, _, _, _, _, _, _, _, _, _, _, _, _, _, _, rfl, _⟩ := h; rfl)
      | (obtain ⟨_, _, _, _, _, _, _, _, _, _, _, _, _, _, _, _, _, rfl, _⟩ := h; rfl)
      | (obtain ⟨_, _, _, _, _, _, _, _, _, _, _, _, _, _, _, _, _, _, rfl, _⟩ := h; rfl)
      | (obtain ⟨_, _, _, _, _, _, _, _, _, _, _, _, _, _, _, _, _, _, _, rfl, _⟩ := h; rfl)
  · obtain ⟨a, ns, i, rfl, hsq, hi, k⟩ := h
    refine ⟨_, (pss_cons (ps_set (i := 2) sc_law_pot.nd rfl (Or.inl rfl) (pe_ifExp (pt_cmpR op_lt (pv 1) (pe_callB (k_len (K := K) rfl) (by rfl) T.n_len (by decide +kernel) (pa_cons (pv 0) pa_nil)) (nomark _)) (pe_callB c_abs (by rfl) T.n_abs (by decide +kernel) (pa_cons (pe_ix (k_ix (K := K) rfl) (pv 0) (pv 1) (fun _ _ => rfl)) pa_nil)) pe_int))
      (pss_one (ps_ret (pe_lst (pa_cons (pe_callB (c_max2 rfl) (by rfl) T.n_max (by decide +kernel) (pa_cons pe_int (pa_cons (pe_op op_sub (pv 2) (pe_op o_pow pe_int pe_int)) pa_nil))) (pa_cons (pe_op o_mod (pe_op (k_add (K := K) rfl) (pe_op (k_add (K := K) rfl) (pe_op o_mul (pe_op o_mod (pv 2) pe_int) pe_int) (pe_op o_mul pe_int (pv 1))) pe_int) pe_int) pa_nil)))))), ?_⟩
    dsimp only [cxOf, st_1, st_2, st_3, st_4, st_5, st_6, List.length_cons, List.length_nil, List.replicate_succ, List.replicate_zero, Nat.reduceAdd, Nat.reduceSub]
    walk_at "gs"
    refine i_dec (fun h0 => ?_) (fun h0 => ?_)
    · rw [List.length_map] at h0
      have hx : (ns.map V.int)[i]? = some (V.int (ns[i]'(by omega))) := by simp
      have hat := atI_nat hx
      walk_at "gs"
      refine i_new fun p hp => ?_
      refine k p _ hp (Kp.new hp) ⟨_, _, upd_same, ?_, ?_, ?_⟩ <;> omega
    · walk_at "gs"
      refine i_new fun p hp => ?_
      refine k p _ hp (Kp.new hp) ⟨_, _, upd_same, ?_, ?_, ?_⟩ <;> omega
def sp_take : Sp := fun vs H Q _ => ∃ (p : Addr) (n : Int), vs = [.ref p, .int n] ∧ PotAt H p ∧ 0 < n ∧
  n ≤ 10000000000000000000000000000000000000000000000000000000000000000000000 ∧
  ∀ r H', 0 ≤ r → r < n → PotAt H' p → Kp [p] H H' → Q (.int r) H'
theorem sc_law_take : FnScope ["_law_pot_here", "_law_many", "_law_digit"] ["_law_pot_here", "_law_many"] (defScope s_law_take) :=
  ⟨rfl, rfl, rfl, by decide +kernel, rfl, by decide +kernel, by decide +kernel⟩
theorem ok_law_take {P : Program} {w : World} {K : PySem.W.Frag} {mg : Str → Option Value} {base : Heap} (T : Txt K mg) :
    FnG P w K mg base 1 T.a_law_take T.d_law_take ["_law_pot_here", "_law_many"] sp_take := by
  refine okD T.F_law_take sc_law_take (fun vs H Q E h => ?_) (fun cdv A outer s H vs Q E hr h => ?_)
  · first
      | (obtain ⟨_, rfl, _⟩ := h; rfl)
      | (obtain ⟨_, _, rfl, _⟩ := h; rfl)
      | (obtain ⟨_, _, _, rfl, _⟩ := h; rfl)
      | (obtain ⟨_, _, _, _, rfl, _⟩ := h; rfl)
      | (obtain ⟨_, _, _, _, _, rfl, _⟩ := h; rfl)
      | (obtain ⟨_, _, _, _, _, _, rfl, _⟩ := h; rfl)
      | (obtain ⟨_, _, _, _, _, _, _, rfl, _⟩ := h; rfl)
      | (obtain ⟨_, _, _, _, _, _, _, _, rfl, _⟩ := h; rfl)
      | (obtain ⟨_, _, _, _, _, _, _, _, _, rfl, _⟩ := h; rfl)
      | (obtain ⟨_, _, _, _, _, _, _, _, _, _, rfl, _⟩ := h; rfl)
      | (obtain ⟨_, _, _, _, _, _, _, _, _, _, _, rfl, _⟩ := h; rfl)
      | (obtain ⟨_, _, _, _, _, _, _, _, _, _, _, _, rfl, _⟩ := h; rfl)
      | (obtain ⟨_, _, _, _, _, _, _, _, _, _, _, _, _, rfl, _⟩ := h; rfl)
      | (obtain ⟨_, _, _, _, _, _, _, _, _, _, _, _, _, _, rfl, _⟩ := h; rfl)
      | (obtain ⟨_, _, _, _, _, _, _, _, _, _, _, _, _, _, _, rfl, _⟩ := h; rfl)
      | (obtain ⟨_, _, _, _, _, _, _, _, _, _, _, _, _, _, _, _, rfl, _⟩ := h; rfl)
      | (obtain ⟨_, _, _, _, _, _, _, _, _, _, _, _, _, _, _, _, _, rfl, _⟩ := h; rfl)
      | (obtain ⟨_, _, _, _, _, _, _, _, _, _, _, _, _, _, _, _, _, _, rfl, _⟩ := h; rfl)
      | (obtain ⟨_, _, _, _, _, _, _, _, _, _, _, _, _, _, _, _, _, _, _, rfl, _⟩ := h; rfl)
  · obtain ⟨p, n, rfl, ⟨x, y, hp, hx, hy, hy2⟩, h0, h1, k⟩ := h
    refine ⟨_, (pss_cons (ps_if (pt_cmpR op_gt (pe_ix (k_ix (K := K) rfl) (pv 0) pe_int (fun _ _ => rfl)) pe_int (nomark _)) (pss_cons (ps_asg (pe_callB c_dm (by rfl) T.n_divmod (by decide +kernel) (pa_cons (pe_ix (k_ix (K := K) rfl) (pv 0) pe_int (fun _ _ => rfl)) (pa_cons (pv 1) pa_nil))) (k_gtup (K := K) 2 rfl rfl (pgs_cons (pg_sub (pv 0) pe_int set_list) (pgs_cons (pg_name (i := 2) sc_law_take.nd rfl (Or.inl rfl)) pgs_nil))))
      (pss_one (ps_ret (pv 2)))) pss_nil)
      (pss_cons (ps_asg (pe_op o_mod (pe_op (k_add (K := K) rfl) (pe_op o_mul (pe_ix (k_ix (K := K) rfl) (pv 0) pe_int (fun _ _ => rfl)) pe_int) pe_int) pe_int) (pg_sub (pv 0) pe_int set_list))
      (pss_one (ps_ret (pe_op o_mod (pe_op o_div (pe_op o_mod (pe_op o_mul (pe_ix (k_ix (K := K) rfl) (pv 0) pe_int (fun _ _ => rfl)) (pe_ix (k_ix (K := K) rfl) (pv 0) pe_int (fun _ _ => rfl))) pe_int) pe_int) (pv 1)))))), ?_⟩
    dsimp only [cxOf, st_1, st_2, st_3, st_4, st_5, st_6, List.length_cons, List.length_nil, List.replicate_succ, List.replicate_zero, Nat.reduceAdd, Nat.reduceSub]
    walk_at "gs"
    refine i_dec (fun hx0 => ?_) (fun hx0 => ?_)
    · walk_at "gs"
      refine i_new fun q hq => ?_
      walk_at "gs"
      refine k _ _ (Int.emod_nonneg _ (by omega)) (Int.emod_lt_of_pos _ h0) ⟨_, _, upd_same, ?_, hy, hy2⟩ ?_
      · exact Int.ediv_nonneg hx (by omega)
      · walk_at "g_kp"
    · walk_at "gs"
      refine k _ _ (Int.emod_nonneg _ (by omega)) (Int.emod_lt_of_pos _ h0) ⟨_, _, upd_same, hx, ?_, ?_⟩ ?_
      · omega
      · omega
      · walk_at "g_kp"
theorem use_take {H : Hp} {Q : VK} {E : XK} {p : Addr} {n : Int} (hp : PotAt H p) (h0 : 0 < n)
    (h1 : n ≤ 10000000000000000000000000000000000000000000000000000000000000000000000)
    (k : ∀ r H', 0 ≤ r → r < n → PotAt H' p → Kp [p] H H' → Q (.int r) H') :
    sp_take [.ref p, .int n] H Q E := ⟨p, n, rfl, hp, h0, h1, k⟩

/-! ### joined -/
def jst (f : List (Int × Int)) (p : Int × Int) : List (Int × Int) :=
  if 0 < p.1 then
    match f.getLast? with
    | some q => if q.2 = p.2 then f.dropLast ++ [(q.1 + p.1, p.2)] else f ++ [p]
    | none => [p]
  else f
theorem jst_same {f0 : List (Int × Int)} {q0 p : Int × Int} (h0 : 0 < p.1) (h1 : q0.2 = p.2) :
    jst (f0 ++ [q0]) p = f0 ++ [(q0.1 + p.1, p.2)] := by
  unfold jst
  rw [if_pos h0]
  simp [h1]
theorem jst_other {f0 : List (Int × Int)} {q0 p : Int × Int} (h0 : 0 < p.1) (h1 : ¬ q0.2 = p.2) :
    jst (f0 ++ [q0]) p = f0 ++ [q0] ++ [p] := by
  unfold jst
  rw [if_pos h0]
  simp [h1]
theorem jst_nil {p : Int × Int} (h0 : 0 < p.1) : jst [] p = [p] := by
  unfold jst
  rw [if_pos h0]
  rfl
theorem jst_no {f : List (Int × Int)} {p : Int × Int} (h0 : ¬ 0 < p.1) : jst f p = f := by
  unfold jst
  rw [if_neg h0]
def jnd (ps : List (Int × Int)) : List (Int × Int) := ps.foldl jst []
theorem jst_len (f : List (Int × Int)) (p : Int × Int) : (jst f p).length ≤ f.length + 1 := by
  unfold jst
  split
  · split
    · split
      · rename_i q hq _
        simp only [List.length_append, List.length_dropLast, List.length_singleton]
        omega
      · simp
    · simp
  · omega
theorem jnd_take {ps : List (Int × Int)} {i : Nat} {p : Int × Int} (h : ps[i]? = some p) :
    jnd (ps.take (i + 1)) = jst (jnd (ps.take i)) p := by
  unfold jnd
  rw [List.take_add_one, h, List.foldl_append]
  rfl
theorem jnd_len : ∀ (ps : List (Int × Int)) (i : Nat), (jnd (ps.take i)).length ≤ i
  | ps, 0 => by simp [jnd]
  | ps, i + 1 => by
    cases h : ps[i]? with
    | none =>
      have e : ps.take (i + 1) = ps.take i := by
        rw [List.take_add_one, h]
        simp
      rw [e]
      have q := jnd_len ps i
      omega
    | some p =>
      rw [jnd_take h]
      have q := jnd_len ps i
      have q2 := jst_len (jnd (ps.take i)) p
      omega
def sp_joined (K : PySem.W.Frag) : Sp := fun vs H Q _ => ∃ (a : Addr) (ps : List (Int × Int)),
  vs = [.ref a] ∧ Dp K H (.ref a) (.list (ps.map d2)) ∧ ps.length ≤ 100000 ∧
  ∀ l H', Fr H l → Kp [] H H' → LD K H' l ((jnd ps).map d2) → Q (.ref l) H'
theorem sc_joined : FnScope ["pairs", "found", "many", "number"] ["pairs"] (defScope s_joined) :=
  ⟨rfl, rfl, rfl, by decide +kernel, rfl, by decide +kernel, by decide +kernel⟩
theorem ok_joined {P : Program} {w : World} {K : PySem.W.Frag} {mg : Str → Option Value} {base : Heap} (T : Txt K mg) :
    FnG P w K mg base 1 T.a_joined T.d_joined ["pairs"] (sp_joined K) := by
  refine okD T.F_joined sc_joined (fun vs H Q E h => ?_) (fun cdv A outer s H vs Q E hr h => ?_)
  · first
      | (obtain ⟨_, rfl, _⟩ := h; rfl)
      | (obtain ⟨_, _, rfl, _⟩ := h; rfl)
      | (obtain ⟨_, _, _, rfl, _⟩ := h; rfl)
      | (obtain ⟨_, _, _, _, rfl, _⟩ := h; rfl)
      | (obtain ⟨_, _, _, _, _, rfl, _⟩ := h; rfl)
      | (obtain ⟨_, _, _, _, _, _, rfl, _⟩ := h; rfl)
      | (obtain ⟨_, _, _, _, _, _, _, rfl, _⟩ := h; rfl)
      | (obtain ⟨_, _, _, _, _, _, _, _, rfl, _⟩ := h; rfl)
      | (obtain ⟨_, _, _, _, _, _, _, _, _, rfl, _⟩ := h; rfl)
      | (obtain ⟨_, _, _, _, _, _, _, _, _, _, rfl, _⟩ := h; rfl)
      | (obtain ⟨_, _, _, _, _, _, _, _, _, _, _, rfl, _⟩ := h; rfl)
      | (obtain ⟨_, _, _, _, _, _, _, _, _, _, _, _, rfl, _⟩ := h; rfl)
      | (obtain ⟨_, _, _, _, _, _, _, _, _, _, _, _, _, rfl, _⟩ := h; rfl)
      | (obtain ⟨_, _, _, _, _, _, _, _, _, _, _, _, _, _, rfl, _⟩ := h; rfl)
      | (obtain ⟨_, _, _, _, _, _, _, _, _, _, _, _, _, _, _, rfl, _⟩ := h; rfl)
      | (obtain ⟨_, _, _, _, _, _, _, _, _, _, _, _, _, _, _, _, rfl, _⟩ := h; rfl)
      | (obtain ⟨_, _, _, _, _, _, _, _, _, _, _, _, _, _, _, _, _, rfl, _⟩ := h; rfl)
      | (obtain ⟨_, _, _, _, _, _, _, _, _, _, _, _, _, _, _, _, _, _, rfl, _⟩ := h; rfl)
      | (obtain ⟨_, _, _, _, _, _, _, _, _, _, _, _, _, _, _, _, _, _, _, rfl, _⟩ := h; rfl)
  · obtain ⟨a, ps, rfl, ha, hps, k⟩ := h
    cases ha
    rename_i xs hsq hall
    have hlen := dpa_len hall
    rw [List.length_map] at hlen
    have cl_Memory := T.cl_Memory
    have na_Memory_pairs := T.na_Memory_pairs
    have na_Memory_wide := T.na_Memory_wide
    have cl_Ties := T.cl_Ties
    have na_Ties_near := T.na_Ties_near
    have na_Ties_own_ever := T.na_Ties_own_ever
    have na_Ties_own_living := T.na_Ties_own_living
    have cl_Store := T.cl_Store
    have na_Store_kept_by_world := T.na_Store_kept_by_world
    have na_Store_own_size := T.na_Store_own_size
    have na_Store_own_ties := T.na_Store_own_ties
    refine ⟨_, (pss_cons (ps_set (i := 1) sc_joined.nd rfl (Or.inl rfl) (pe_lst pa_nil))
      (pss_cons (ps_for (passes_of rfl) rfl (k_plist (K := K) rfl (pv 0)) (k_gtup (K := K) 2 rfl rfl (pgs_cons (pg_name (i := 2) sc_joined.nd rfl (Or.inl rfl)) (pgs_cons (pg_name (i := 3) sc_joined.nd rfl (Or.inl rfl)) pgs_nil)))
      (pss_one (ps_if (PW.pt (pw_and (pt_cmpR op_gt (pv 2) pe_int (nomark _)) (pw_and (pt_cmpR (k_ne (K := K) rfl hr.r.units) (pv 1) (pe_lst pa_nil) (nomark _)) (pw_and1 (pt_cmpR (k_eq (K := K) rfl hr.r.units) (pe_ix (k_ix (K := K) rfl) (pe_ix (k_ix (K := K) rfl) (pv 1) (pe_un un_neg pe_int) (fun _ _ => rfl)) pe_int (fun _ _ => rfl)) (pv 3) (nomark _)))))) (pss_one (ps_asg (pe_tup (pa_cons (pe_op (k_add (K := K) rfl) (pe_ix (k_ix (K := K) rfl) (pe_ix (k_ix (K := K) rfl) (pv 1) (pe_un un_neg pe_int) (fun _ _ => rfl)) pe_int (fun _ _ => rfl)) (pv 2)) (pa_cons (pv 3) pa_nil))) (pg_sub (pv 1) (pe_un un_neg pe_int) set_list))) (pss_one (ps_if (pt_cmpR op_gt (pv 2) pe_int (nomark _)) (pss_one (ps_expr (pe_bm PySem.F.plainAttrs_list PySem.F.slot_list_append PySem.F.type_list_append mt_append (pv 1) (pa_cons (pe_tup (pa_cons (pv 2) (pa_cons (pv 3) pa_nil))) pa_nil)))) pss_nil)))))
      (pss_one (ps_ret (pv 1))))), ?_⟩
    dsimp only [cxOf, st_1, st_2, st_3, st_4, st_5, st_6, List.length_cons, List.length_nil, List.replicate_succ, List.replicate_zero, Nat.reduceAdd, Nat.reduceSub]
    walk_at "gs"
    refine i_new fun l hl => ?_
    walk_at "gs"
    refine i_each ((Kp.new hl).seqL (ws := []) List.not_mem_nil hsq) (fun i σ H' => ∃ u v, σ = [some (.ref a), some (.ref l), u, v] ∧ Kp [] H H' ∧
      LD K H' l ((jnd (ps.take i)).map d2)) ?_ ?_ ?_ ?_
    · exact ⟨none, none, rfl, Kp.new hl, ⟨[], upd_same, .nil⟩⟩
    · rintro i σ H' _ ⟨u, v, rfl, kp, ld⟩
      exact kp.seqL List.not_mem_nil hsq
    · rintro i x σ H' hx ⟨u, v, rfl, kp, ld⟩
      obtain ⟨d, hd, hdp⟩ := dpa_getV hall hx
      obtain ⟨p, hp, rfl⟩ := map_get hd
      obtain ⟨pa, rfl, hpt⟩ := dp_pair hdp
      replace hpt := kp.seqT hpt
      obtain ⟨vs, hvs, hall2⟩ := id ld
      have hvl := dpa_len hall2
      rw [List.length_map] at hvl
      have hjl := jnd_len ps i
      have hil : i < ps.length := (List.getElem?_eq_some_iff.mp hp).1
      walk_at "gs"
      refine i_dec (fun h0 => ?_) (fun h0 => ?_)
      · walk_at "gs"
        refine i_new fun q hq => ?_
        walk_at "gs"
        refine ne_nil ld (imms_d2 _) (shaped_pairs _) hq ?_
        walk_at "gs"
        refine i_boN (fun e => ?_) (fun e => ?_)
        · obtain ⟨f0, q0, hF⟩ := list_last (l := jnd (ps.take i)) (by
            intro z
            rw [z] at e
            cases e)
          rw [hF, List.map_append] at hall2
          obtain ⟨us, x, rfl, hu, hx2⟩ := dpa_last hall2
          obtain ⟨qa, rfl, hqa⟩ := dp_pair hx2
          rw [List.length_append, List.length_singleton] at hvl
          walk_at "gs"
          refine i_dec (fun h1 => ?_) (fun h1 => ?_)
          · walk_at "gs"
            refine i_new fun t ht => ?_
            walk_at "gs"
            rw [set_last]
            refine ⟨_, _, rfl, ?_, _, upd_same, ?_⟩
            · walk_at "g_kp"
            · have kl : Kp [l] H' (upd (upd (upd H' q (.lst [])) t (.tup [.int (q0.1 + p.1), .int p.2])) l
                  (.lst (us ++ [V.ref t]))) := by walk_at "g_kp"
              rw [jnd_take hp, hF, jst_same h0 h1, List.map_append]
              exact dpa_app (dpa_imm kl _ _ (imms_d2 _) hu) (dpa_one (dp_mk2 (by walk_at "g_st")))
          · walk_at "gs"
            refine i_dec (fun _ => ?_) (fun z => absurd h0 z)
            walk_at "gs"
            refine i_new fun t ht => ?_
            walk_at "gs"
            refine ⟨_, _, rfl, ?_, _, upd_same, ?_⟩
            · walk_at "g_kp"
            · have kl : Kp [l] H' (upd (upd (upd H' q (.lst [])) t (.tup [.int p.1, .int p.2])) l
                  (.lst (us ++ [V.ref qa] ++ [V.ref t]))) := by walk_at "g_kp"
              rw [jnd_take hp, hF, jst_other h0 h1, List.map_append, List.map_append]
              exact dpa_app (dpa_app (dpa_imm kl _ _ (imms_d2 _) hu) (dpa_one (dp_imm kl _ _ rfl hx2))) (dpa_one (dp_mk2 (by walk_at "g_st")))
        · walk_at "gs"
          refine i_dec (fun _ => ?_) (fun z => absurd h0 z)
          walk_at "gs"
          refine i_new fun t ht => ?_
          walk_at "gs"
          have hF : jnd (ps.take i) = [] := by
            cases z : jnd (ps.take i) with
            | nil => rfl
            | cons x y =>
              rw [z] at e
              cases e
          rw [hF] at hall2
          cases hall2
          refine ⟨_, _, rfl, ?_, _, upd_same, ?_⟩
          · walk_at "g_kp"
          · rw [jnd_take hp, hF, jst_nil h0]
            exact dpa_one (dp_mk2 (by walk_at "g_st"))
      · walk_at "gs"
        refine i_dec (fun z => absurd z h0) (fun _ => ?_)
        walk_at "gs"
        refine ⟨_, _, rfl, kp, ?_⟩
        rw [jnd_take hp, jst_no h0]
        exact ld
    · rintro σ H' ⟨u, v, rfl, kp, ld⟩
      walk_at "gs"
      rw [List.take_of_length_le (by omega)] at ld
      exact k l H' hl kp ld

/-! ### counting from the back -/
def wst (f : List (Int × Int)) (p : Int × Int) : List (Int × Int) :=
  match f with
  | [] => [(0 + p.1, p.2)]
  | q :: t => if q.2 = p.2 then (q.1 + p.1, p.2) :: t else (0 + p.1, p.2) :: q :: t
def pos (p : Int × Int) : Bool := decide (0 < p.1)
def wrt (ps : List (Int × Int)) : List (Int × Int) := (ps.reverse.filter pos).foldl wst []
def wr : List (Int × Int) → List (Int × Int)
  | [] => []
  | p :: ps => if 0 < p.1 then wst (wr ps) p else wr ps
theorem wrt_eq (ps : List (Int × Int)) : wrt ps = wr ps := by
  induction ps with
  | nil => rfl
  | cons p ps ih =>
    unfold wrt at *
    rw [List.reverse_cons, List.filter_append, List.foldl_append, ih]
    by_cases h : 0 < p.1
    · simp [wr, h, pos]
    · simp [wr, h, pos]
/-- what is put ahead of the rest -/
def glue (f : List (Int × Int)) : List (Int × Int) → List (Int × Int)
  | [] => f
  | q :: t => jst f q ++ t
theorem wr_pos : ∀ (ps : List (Int × Int)) (q : Int × Int), q ∈ wr ps → 0 < q.1
  | [], _, h => nomatch h
  | p :: ps, q, h => by
    unfold wr at h
    by_cases hp : 0 < p.1
    · rw [if_pos hp] at h
      cases e : wr ps with
      | nil =>
        rw [e] at h
        simp only [wst, List.mem_singleton] at h
        rw [h]
        show 0 < 0 + p.1
        omega
      | cons x t =>
        have hx : 0 < x.1 := wr_pos ps x (by rw [e]; exact List.mem_cons_self)
        rw [e] at h
        unfold wst at h
        simp only at h
        by_cases hq : x.2 = p.2
        · rw [if_pos hq] at h
          rcases List.mem_cons.mp h with z | z
          · rw [z]
            show 0 < x.1 + p.1
            omega
          · exact wr_pos ps q (by rw [e]; exact List.mem_cons_of_mem _ z)
        · rw [if_neg hq] at h
          rcases List.mem_cons.mp h with z | z
          · rw [z]
            show 0 < 0 + p.1
            omega
          · exact wr_pos ps q (by rw [e]; exact z)
    · rw [if_neg hp] at h
      exact wr_pos ps q h
theorem jst_cases (f : List (Int × Int)) (p : Int × Int) (h : 0 < p.1) :
    (∃ f0 q0, f = f0 ++ [q0] ∧ q0.2 = p.2 ∧ jst f p = f0 ++ [(q0.1 + p.1, p.2)]) ∨
    ((∀ f0 q0, f = f0 ++ [q0] → q0.2 ≠ p.2) ∧ jst f p = f ++ [p]) := by
  by_cases e : f = []
  · subst e
    exact .inr ⟨fun f0 q0 z => by simp at z, jst_nil h⟩
  · obtain ⟨f0, q0, rfl⟩ := list_last e
    by_cases c : q0.2 = p.2
    · exact .inl ⟨f0, q0, rfl, c, jst_same h c⟩
    · refine .inr ⟨fun g0 r0 z => ?_, jst_other h c⟩
      have z2 := List.append_inj_right' z rfl
      cases z2
      exact c
theorem jst_two (f : List (Int × Int)) (p q : Int × Int) (hp : 0 < p.1) (hq : 0 < q.1) (e : q.2 = p.2) :
    jst (jst f p) q = jst f (q.1 + p.1, p.2) := by
  have h3 : 0 < ((q.1 + p.1, p.2) : Int × Int).1 := by
    show 0 < q.1 + p.1
    omega
  rcases jst_cases f p hp with ⟨f0, q0, rfl, c, z⟩ | ⟨c, z⟩
  · rw [z, jst_same (q0 := (q0.1 + p.1, p.2)) (p := q) hq e.symm, jst_same h3 c]
    congr 2
    rw [e]
    congr 1
    show q0.1 + p.1 + q.1 = q0.1 + (q.1 + p.1)
    omega
  · rw [z, jst_same hq e.symm]
    rcases jst_cases f (q.1 + p.1, p.2) h3 with ⟨f0, q0, rfl, c2, z2⟩ | ⟨c2, z2⟩
    · exact absurd c2 (c f0 q0 rfl)
    · rw [z2, e]
      congr 3
      omega
theorem fold_glue : ∀ (ps f : List (Int × Int)), ps.foldl jst f = glue f (wr ps)
  | [], f => rfl
  | p :: ps, f => by
    rw [List.foldl_cons, fold_glue ps (jst f p)]
    by_cases hp : 0 < p.1
    · have e : wr (p :: ps) = wst (wr ps) p := by
        show (if 0 < p.1 then wst (wr ps) p else wr ps) = _
        rw [if_pos hp]
      rw [e]
      cases h : wr ps with
      | nil =>
        show jst f p = jst f (0 + p.1, p.2) ++ []
        rw [Int.zero_add, List.append_nil]
      | cons q t =>
        have hq : 0 < q.1 := wr_pos ps q (by rw [h]; exact List.mem_cons_self)
        unfold wst
        simp only
        by_cases c : q.2 = p.2
        · rw [if_pos c]
          show jst (jst f p) q ++ t = jst f (q.1 + p.1, p.2) ++ t
          rw [jst_two f p q hp hq c]
        · rw [if_neg c]
          show jst (jst f p) q ++ t = jst f (0 + p.1, p.2) ++ (q :: t)
          rw [Int.zero_add]
          have z : jst (jst f p) q = jst f p ++ [q] := by
            rcases jst_cases f p hp with ⟨f0, q0, rfl, d, z⟩ | ⟨d, z⟩
            · rw [z, jst_other (q0 := (q0.1 + p.1, p.2)) (p := q) hq (fun k => c k.symm)]
            · rw [z, jst_other hq (fun k => c k.symm)]
          rw [z, List.append_assoc]
          rfl
    · have e : wr (p :: ps) = wr ps := by
        show (if 0 < p.1 then wst (wr ps) p else wr ps) = _
        rw [if_neg hp]
      rw [e, jst_no hp]
theorem jnd_wr (ps : List (Int × Int)) : jnd ps = wr ps := by
  unfold jnd
  rw [fold_glue]
  cases h : wr ps with
  | nil => rfl
  | cons q t =>
    have hq : 0 < q.1 := wr_pos ps q (by rw [h]; exact List.mem_cons_self)
    show jst [] q ++ t = q :: t
    rw [jst_nil hq]
    rfl
theorem wr_len : ∀ ps : List (Int × Int), (wr ps).length ≤ ps.length
  | [] => Nat.le_refl _
  | p :: ps => by
    have q := wr_len ps
    unfold wr
    split
    · cases h : wr ps with
      | nil => simp [wst]
      | cons x t =>
        rw [h] at q
        simp only [wst, List.length_cons] at *
        split <;> simp only [List.length_cons] <;> omega
    · rw [List.length_cons]
      omega
/-- told again of what was told it is the same -/
theorem wst_wr (f : List (Int × Int)) (p : Int × Int) (hp : 0 < p.1) (hf : wr f = f)
    (hpos : ∀ q ∈ f, 0 < q.1) : wr (wst f p) = wst f p := by
  cases f with
  | nil =>
    show (if 0 < 0 + p.1 then wst [] (0 + p.1, p.2) else []) = [(0 + p.1, p.2)]
    rw [Int.zero_add, if_pos hp]
    simp [wst]
  | cons q t =>
    have hq := hpos q List.mem_cons_self
    have ht : wst (wr t) q = q :: t := by
      have z : (if 0 < q.1 then wst (wr t) q else wr t) = q :: t := hf
      rwa [if_pos hq] at z
    unfold wst
    simp only
    by_cases c : q.2 = p.2
    · rw [if_pos c]
      show (if 0 < q.1 + p.1 then wst (wr t) (q.1 + p.1, p.2) else wr t) = _
      rw [if_pos (by omega)]
      cases e : wr t with
      | nil =>
        rw [e] at ht
        simp only [wst, List.cons.injEq] at ht
        simp [wst, ← ht.2]
      | cons x u =>
        rw [e] at ht
        unfold wst at ht ⊢
        simp only at ht ⊢
        by_cases d : x.2 = q.2
        · rw [if_pos d] at ht
          have hu : wr t = t := by
            have l1 := wr_len t
            rw [e] at l1
            have l2 := congrArg List.length ht
            simp only [List.length_cons] at l1 l2
            omega
          rw [hu] at e
          subst e
          have l2 := congrArg List.length ht
          simp only [List.length_cons] at l2
          omega
        · rw [if_neg d] at ht
          rw [if_neg (by rw [← c]; exact d)]
          rw [Int.zero_add]
          have z := (List.cons.inj ht).2
          rw [z]
    · rw [if_neg c]
      show (if 0 < 0 + p.1 then wst (wr (q :: t)) (0 + p.1, p.2) else wr (q :: t)) = _
      rw [Int.zero_add, if_pos hp, hf]
      unfold wst
      simp only
      rw [if_neg c, Int.zero_add]
theorem wr_wr : ∀ ps : List (Int × Int), wr (wr ps) = wr ps
  | [] => rfl
  | p :: ps => by
    have e : wr (p :: ps) = if 0 < p.1 then wst (wr ps) p else wr ps := rfl
    rw [e]
    split
    · exact wst_wr _ _ (by assumption) (wr_wr ps) (wr_pos ps)
    · exact wr_wr ps

/-! ### runs and cells -/
def rle (cs : List Int) : List (Int × Int) := wr (cs.map tag)
theorem cells_nil : cells [] = [] := rfl
theorem cells_cons (p : Int × Int) (ps : List (Int × Int)) : cells (p :: ps) = List.replicate p.1.toNat p.2 ++ cells ps := rfl
theorem cells_app (ps qs : List (Int × Int)) : cells (ps ++ qs) = cells ps ++ cells qs := List.flatMap_append
theorem cells_tag : ∀ cs : List Int, cells (cs.map tag) = cs
  | [] => rfl
  | c :: cs => by
    rw [List.map_cons, cells_cons, cells_tag cs]
    rfl
theorem cells_wst (f : List (Int × Int)) (p : Int × Int) (hp : 0 < p.1) (hf : ∀ q ∈ f, 0 < q.1) :
    cells (wst f p) = List.replicate p.1.toNat p.2 ++ cells f := by
  cases f with
  | nil => simp [wst, cells_cons]
  | cons q t =>
    have hq := hf q List.mem_cons_self
    unfold wst
    simp only
    by_cases c : q.2 = p.2
    · rw [if_pos c, cells_cons, cells_cons]
      show List.replicate (q.1 + p.1).toNat p.2 ++ cells t = _
      have e : (q.1 + p.1).toNat = p.1.toNat + q.1.toNat := by omega
      rw [e, ← List.replicate_append_replicate, List.append_assoc, c]
    · rw [if_neg c, cells_cons]
      show List.replicate (0 + p.1).toNat p.2 ++ _ = _
      rw [Int.zero_add]
theorem cells_wr : ∀ ps : List (Int × Int), cells (wr ps) = cells ps
  | [] => rfl
  | p :: ps => by
    rw [cells_cons]
    unfold wr
    by_cases hp : 0 < p.1
    · rw [if_pos hp, cells_wst _ _ hp (wr_pos ps), cells_wr ps]
    · rw [if_neg hp, cells_wr ps]
      have e : p.1.toNat = 0 := by omega
      rw [e]
      rfl
theorem wst_more (f : List (Int × Int)) (n v : Int) (hn : 0 < n) : wst (wst f (n, v)) (1, v) = wst f (n + 1, v) := by
  cases f with
  | nil =>
    show wst [(0 + n, v)] (1, v) = [(0 + (n + 1), v)]
    unfold wst
    simp only [if_true]
    congr 2
    omega
  | cons q t =>
    by_cases c : q.2 = v
    · have e1 : wst (q :: t) (n, v) = (q.1 + n, v) :: t := by simp [wst, c]
      have e2 : wst (q :: t) (n + 1, v) = (q.1 + (n + 1), v) :: t := by simp [wst, c]
      have e3 : wst ((q.1 + n, v) :: t) (1, v) = (q.1 + n + 1, v) :: t := by simp [wst]
      rw [e1, e2, e3]
      congr 2
      omega
    · have e1 : wst (q :: t) (n, v) = (0 + n, v) :: q :: t := by simp [wst, c]
      have e2 : wst (q :: t) (n + 1, v) = (0 + (n + 1), v) :: q :: t := by simp [wst, c]
      have e3 : wst ((0 + n, v) :: q :: t) (1, v) = (0 + n + 1, v) :: q :: t := by simp [wst]
      rw [e1, e2, e3]
      congr 2
      omega
theorem wst_one (f : List (Int × Int)) (c : Int) : wr (tag c :: f) = wst (wr f) (1, c) := by
  show (if (0 : Int) < 1 then wst (wr f) (1, c) else wr f) = _
  rw [if_pos (by decide)]
theorem rle_rep (v : Int) (cs : List Int) : ∀ n : Nat, rle (List.replicate (n + 1) v ++ cs) = wst (rle cs) ((n : Int) + 1, v)
  | 0 => by
    show wr (tag v :: cs.map tag) = _
    rw [wst_one]
    rfl
  | n + 1 => by
    have ih := rle_rep v cs n
    have e : rle (List.replicate (n + 1 + 1) v ++ cs) = wst (rle (List.replicate (n + 1) v ++ cs)) (1, v) := by
      show wr (tag v :: (List.replicate (n + 1) v ++ cs).map tag) = _
      rw [wst_one]
      rfl
    rw [e, ih, wst_more _ _ _ (by omega)]
    congr 2
theorem wr_rle : ∀ ps : List (Int × Int), wr ps = rle (cells ps)
  | [] => rfl
  | p :: ps => by
    have ih := wr_rle ps
    rw [cells_cons]
    unfold wr
    by_cases hp : 0 < p.1
    · obtain ⟨n, hn⟩ : ∃ n : Nat, p.1.toNat = n + 1 := ⟨p.1.toNat - 1, by omega⟩
      rw [if_pos hp, hn, rle_rep, ih]
      congr 1
      have e : ((n : Int) + 1) = p.1 := by omega
      rw [e]
    · rw [if_neg hp]
      have e : p.1.toNat = 0 := by omega
      rw [e]
      exact ih
theorem cells_rle (cs : List Int) : cells (rle cs) = cs := by
  unfold rle
  rw [cells_wr, cells_tag]
theorem rle_len (cs : List Int) : (rle cs).length ≤ cs.length := by
  have h := wr_len (cs.map tag)
  rw [List.length_map] at h
  exact h
theorem rle_pos (cs : List Int) : ∀ q ∈ rle cs, 0 < q.1 := wr_pos _
theorem jnd_rle (ps : List (Int × Int)) : jnd ps = rle (cells ps) := by rw [jnd_wr, wr_rle]
theorem rle_inj {cs ds : List Int} (h : rle cs = rle ds) : cs = ds := by
  rw [← cells_rle cs, h, cells_rle]
theorem rle_ne {cs : List Int} (h : cs ≠ []) : rle cs ≠ [] := fun z => h (by rw [← cells_rle cs, z]; rfl)
/-- what of the pairs, that begin at a, lies between b and e -/
def cutF (b e : Int) : Int → List (Int × Int) → List (Int × Int)
  | _, [] => []
  | a, p :: t => (if max b a < min e (a + p.1) then [(min e (a + p.1) - max b a, p.2)] else []) ++ cutF b e (a + p.1) t
def cut (b e : Int) (ps : List (Int × Int)) : List (Int × Int) := cutF b e 0 ps
theorem cutF_len (b e : Int) : ∀ (a : Int) (ps : List (Int × Int)), (cutF b e a ps).length ≤ ps.length
  | _, [] => Nat.le_refl _
  | a, p :: t => by
    have h := cutF_len b e (a + p.1) t
    unfold cutF
    rw [List.length_append, List.length_cons]
    split <;> simp <;> omega
theorem cut_len (b e : Int) (ps : List (Int × Int)) : (cut b e ps).length ≤ ps.length := cutF_len b e 0 ps
theorem cutF_pos (b e : Int) : ∀ (a : Int) (ps : List (Int × Int)) (q : Int × Int), q ∈ cutF b e a ps → 0 < q.1
  | _, [], _, h => nomatch h
  | a, p :: t, q, h => by
    unfold cutF at h
    rcases List.mem_append.mp h with h | h
    · split at h
      · rw [List.mem_singleton.mp h]
        show 0 < min e (a + p.1) - max b a
        omega
      · exact nomatch h
    · exact cutF_pos b e (a + p.1) t q h
def wide (ps : List (Int × Int)) : Int := (ps.map (·.1)).sum
theorem cutF_app (b e : Int) : ∀ (a : Int) (ps : List (Int × Int)) (p : Int × Int), cutF b e a (ps ++ [p]) =
    cutF b e a ps ++ (if max b (a + wide ps) < min e (a + wide ps + p.1) then [(min e (a + wide ps + p.1) - max b (a + wide ps), p.2)] else [])
  | a, [], p => by
    have e0 : a + wide [] = a := Int.add_zero a
    rw [e0]
    show (if max b a < min e (a + p.1) then [(min e (a + p.1) - max b a, p.2)] else []) ++ [] = [] ++ _
    rw [List.append_nil, List.nil_append]
  | a, q :: t, p => by
    have ih := cutF_app b e (a + q.1) t p
    have e0 : a + wide (q :: t) = a + q.1 + wide t := by
      show a + (q.1 + wide t) = _
      omega
    rw [List.cons_append, e0]
    conv => lhs; unfold cutF
    rw [ih]
    conv => rhs; unfold cutF
    rw [List.append_assoc]
theorem cut_take {b e : Int} {ps : List (Int × Int)} {i : Nat} {p : Int × Int} (h : ps[i]? = some p) :
    cut b e (ps.take (i + 1)) = cut b e (ps.take i) ++ (if max b (wide (ps.take i)) < min e (wide (ps.take i) + p.1)
      then [(min e (wide (ps.take i) + p.1) - max b (wide (ps.take i)), p.2)] else []) := by
  unfold cut
  rw [List.take_add_one, h]
  have k := cutF_app b e 0 (ps.take i) p
  rw [Int.zero_add] at k
  exact k
theorem wide_take {ps : List (Int × Int)} {i : Nat} {p : Int × Int} (h : ps[i]? = some p) :
    wide (ps.take (i + 1)) = wide (ps.take i) + p.1 := by
  unfold wide
  rw [List.take_add_one, h, List.map_append, List.sum_append]
  simp
theorem cells_cutF (b e : Int) : ∀ (a : Int) (ps : List (Int × Int)), (∀ q ∈ ps, 0 ≤ q.1) →
    cells (cutF b e a ps) = ((cells ps).drop (b - a).toNat).take ((e - a).toNat - (b - a).toNat)
  | a, [], _ => by simp [cutF, cells]
  | a, p :: t, h => by
    have hp := h p List.mem_cons_self
    have ih := cells_cutF b e (a + p.1) t fun q hq => h q (List.mem_cons_of_mem _ hq)
    unfold cutF
    rw [cells_app, ih, cells_cons, List.drop_append, List.take_append, List.drop_replicate, List.take_replicate, List.length_replicate, List.length_replicate]
    congr 1
    · split
      · rw [cells_cons, cells_nil, List.append_nil]
        show List.replicate (min e (a + p.1) - max b a).toNat p.2 = _
        congr 1
        omega
      · have e0 : min ((e - a).toNat - (b - a).toNat) (p.1.toNat - (b - a).toNat) = 0 := by omega
        rw [e0]
        rfl
    · have e1 : (b - (a + p.1)).toNat = (b - a).toNat - p.1.toNat := by omega
      have e2 : (e - (a + p.1)).toNat - (b - (a + p.1)).toNat = (e - a).toNat - (b - a).toNat - (p.1.toNat - (b - a).toNat) := by omega
      rw [e2, e1]
theorem cells_cut {b e : Int} {ps : List (Int × Int)} (h : ∀ q ∈ ps, 0 ≤ q.1) :
    cells (cut b e ps) = ((cells ps).drop b.toNat).take (e.toNat - b.toNat) := by
  have k := cells_cutF b e 0 ps h
  rw [Int.sub_zero, Int.sub_zero] at k
  exact k
theorem cut_rle {b e : Int} {cs : List Int} : cells (cut b e (rle cs)) = (cs.drop b.toNat).take (e.toNat - b.toNat) := by
  rw [cells_cut fun q hq => Int.le_of_lt (rle_pos cs q hq), cells_rle]
theorem one_cell {ps : List (Int × Int)} {v : Int} (hp : ∀ q ∈ ps, 0 < q.1) (h : cells ps = [v]) : ps = [(1, v)] := by
  cases ps with
  | nil => cases h
  | cons p t =>
    have h0 := hp p List.mem_cons_self
    rw [cells_cons] at h
    have hl := congrArg List.length h
    rw [List.length_append, List.length_replicate, List.length_singleton] at hl
    have e1 : p.1.toNat = 1 := by omega
    have e2 : t = [] := by
      cases t with
      | nil => rfl
      | cons q u =>
        have h1 := hp q (List.mem_cons_of_mem _ List.mem_cons_self)
        rw [cells_cons, List.length_append, List.length_replicate] at hl
        omega
    rw [e1, e2, cells_nil, List.append_nil] at h
    cases h
    rw [e2]
    congr 1
    have e3 : p.1 = 1 := by omega
    rw [← e3]
theorem cut_at {cs : List Int} {c : Nat} {v : Int} (h : cs[c]? = some v) : cut c (c + 1) (rle cs) = [(1, v)] := by
  refine one_cell (cutF_pos _ _ _ _) ?_
  rw [cut_rle]
  obtain ⟨hc, e⟩ := List.getElem?_eq_some_iff.mp h
  have e1 : ((c : Int)).toNat = c := by omega
  have e2 : ((c : Int) + 1).toNat - c = 1 := by omega
  rw [e1, e2, List.drop_eq_getElem_cons hc, e]
  rfl
/-- laid over -/
def laid (cs : List Int) (b : Nat) (xs : List Int) (e : Nat) : List Int := cs.take b ++ xs ++ cs.drop e
theorem laid_rle {cs : List Int} {b e : Int} {ps : List (Int × Int)} :
    jnd (cut 0 b (rle cs) ++ ps ++ cut e cs.length (rle cs)) = rle (laid cs b.toNat (cells ps) e.toNat) := by
  rw [jnd_rle, cells_app, cells_app, cut_rle, cut_rle]
  unfold laid
  rw [List.take_of_length_le (l := cs.drop e.toNat) (by rw [List.length_drop]; omega)]
  rfl
theorem laid_len {cs xs : List Int} {b e : Nat} (h : b ≤ e) (he : e ≤ cs.length) (hx : xs.length = e - b) :
    (laid cs b xs e).length = cs.length := by
  unfold laid
  rw [List.length_append, List.length_append, List.length_take, List.length_drop, hx]
  omega
theorem cells_len : ∀ ps : List (Int × Int), (∀ q ∈ ps, 0 < q.1) → ((cells ps).length : Int) = wide ps
  | [], _ => rfl
  | p :: ps, h => by
    have ih := cells_len ps fun q hq => h q (List.mem_cons_of_mem _ hq)
    have hp := h p List.mem_cons_self
    rw [cells_cons, List.length_append, List.length_replicate]
    show ((p.1.toNat + (cells ps).length : Nat) : Int) = p.1 + wide ps
    omega

/-! ### numbers -/
def sp_is_number : Sp := fun vs H Q _ => ∃ n : Int, vs = [.int n] ∧ Q (.bl true) H
theorem sc_is_number : FnScope ["thing"] ["thing"] (defScope s_is_number) :=
  ⟨rfl, rfl, rfl, by decide +kernel, rfl, by decide +kernel, by decide +kernel⟩
theorem ok_is_number {P : Program} {w : World} {K : PySem.W.Frag} {mg : Str → Option Value} {base : Heap} (T : Txt K mg) :
    FnG P w K mg base 1 T.a_is_number T.d_is_number ["thing"] sp_is_number := by
  refine okD T.F_is_number sc_is_number (fun vs H Q E h => ?_) (fun cdv A outer s H vs Q E hr h => ?_)
  · first
      | (obtain ⟨_, rfl, _⟩ := h; rfl)
      | (obtain ⟨_, _, rfl, _⟩ := h; rfl)
      | (obtain ⟨_, _, _, rfl, _⟩ := h; rfl)
      | (obtain ⟨_, _, _, _, rfl, _⟩ := h; rfl)
      | (obtain ⟨_, _, _, _, _, rfl, _⟩ := h; rfl)
      | (obtain ⟨_, _, _, _, _, _, rfl, _⟩ := h; rfl)
      | (obtain ⟨_, _, _, _, _, _, _, rfl, _⟩ := h; rfl)
      | (obtain ⟨_, _, _, _, _, _, _, _, rfl, _⟩ := h; rfl)
      | (obtain ⟨_, _, _, _, _, _, _, _, _, rfl, _⟩ := h; rfl)
      | (obtain ⟨_, _, _, _, _, _, _, _, _, _, rfl, _⟩ := h; rfl)
      | (obtain ⟨_, _, _, _, _, _, _, _, _, _, _, rfl, _⟩ := h; rfl)
      | (obtain ⟨_, _, _, _, _, _, _, _, _, _, _, _, rfl, _⟩ := h; rfl)
      | (obtain ⟨_, _, _, _, _, _, _, _, _, _, _, _, _, rfl, _⟩ := h; rfl)
      | (obtain ⟨_, _, _, _, _, _, _, _, _, _, _, _, _, _, rfl, _⟩ := h; rfl)
      | (obtain ⟨_, _, _, _, _, _, _, _, _, _, _, _, _, _, _, rfl, _⟩ := h; rfl)
      | (obtain ⟨_, _, _, _, _, _, _, _, _, _, _, _, _, _, _, _, rfl, _⟩ := h; rfl)
      | (obtain ⟨_, _, _, _, _, _, _, _, _, _, _, _, _, _, _, _, _, rfl, _⟩ := h; rfl)
      | (obtain ⟨_, _, _, _, _, _, _, _, _, _, _, _, _, _, _, _, _, _, rfl, _⟩ := h; rfl)
      | (obtain ⟨_, _, _, _, _, _, _, _, _, _, _, _, _, _, _, _, _, _, _, rfl, _⟩ := h; rfl)
  · obtain ⟨n, rfl, k⟩ := h
    refine ⟨_, (pss_one (ps_ret (pe_and (pe_callB (k_isi (K := K) rfl) (by rfl) T.n_isinstance (by decide +kernel) (pa_cons (pv 0) (pa_cons (pe_bltn (v := .ty "int") (by rfl) T.n_int (by decide +kernel) rfl) pa_nil))) (pe_one (pe_not (pe_callB (k_isi (K := K) rfl) (by rfl) T.n_isinstance (by decide +kernel) (pa_cons (pv 0) (pa_cons (pe_bltn (v := .ty "bool") (by rfl) T.n_bool (by decide +kernel) rfl) pa_nil)))))))), ?_⟩
    dsimp only [cxOf, st_1, st_2, st_3, st_4, st_5, st_6, List.length_cons, List.length_nil, List.replicate_succ, List.replicate_zero, Nat.reduceAdd, Nat.reduceSub]
    walk_at "gs"
    refine i_isD (.int n) (show kitB "int" "int" = some true by decide +kernel) ?_
    walk_at "gs"
    refine i_isD (.int n) (show kitB "int" "bool" = some false by decide +kernel) ?_
    walk_at "gs"
    exact k
def sp_is_whole : Sp := fun vs H Q _ => ∃ n a b : Int, vs = [.int n, .int a, .int b] ∧ Q (.bl (decide (a ≤ n ∧ n ≤ b))) H
theorem sc_is_whole : FnScope ["thing", "least", "most"] ["thing", "least", "most"] (defScope s_is_whole) :=
  ⟨rfl, rfl, rfl, by decide +kernel, rfl, by decide +kernel, by decide +kernel⟩
theorem ok_is_whole {P : Program} {w : World} {K : PySem.W.Frag} {mg : Str → Option Value} {base : Heap} (T : Txt K mg) :
    FnG P w K mg base 2 T.a_is_whole T.d_is_whole ["thing", "least", "most"] sp_is_whole := by
  refine okD T.F_is_whole sc_is_whole (fun vs H Q E h => ?_) (fun cdv A outer s H vs Q E hr h => ?_)
  · first
      | (obtain ⟨_, rfl, _⟩ := h; rfl)
      | (obtain ⟨_, _, rfl, _⟩ := h; rfl)
      | (obtain ⟨_, _, _, rfl, _⟩ := h; rfl)
      | (obtain ⟨_, _, _, _, rfl, _⟩ := h; rfl)
      | (obtain ⟨_, _, _, _, _, rfl, _⟩ := h; rfl)
      | (obtain ⟨_, _, _, _, _, _, rfl, _⟩ := h; rfl)
      | (obtain ⟨_, _, _, _, _, _, _, rfl, _⟩ := h; rfl)
      | (obtain ⟨_, _, _, _, _, _, _, _, rfl, _⟩ := h; rfl)
      | (obtain ⟨_, _, _, _, _, _, _, _, _, rfl, _⟩ := h; rfl)
      | (obtain ⟨_, _, _, _, _, _, _, _, _, _, rfl, _⟩ := h; rfl)
      | (obtain ⟨_, _, _, _, _, _, _, _, _, _, _, rfl, _⟩ := h; rfl)
      | (obtain ⟨_, _, _, _, _, _, _, _, _, _, _, _, rfl, _⟩ := h; rfl)
      | (obtain ⟨_, _, _, _, _, _, _, _, _, _, _, _, _, rfl, _⟩ := h; rfl)
      | (obtain ⟨_, _, _, _, _, _, _, _, _, _, _, _, _, _, rfl, _⟩ := h; rfl)
      | (obtain ⟨_, _, _, _, _, _, _, _, _, _, _, _, _, _, _, rfl, _⟩ := h; rfl)
      | (obtain ⟨_, _, _, _, _, _, _, _, _, _, _, _, _, _, _, _, rfl, _⟩ := h; rfl)
      | (obtain ⟨_, _, _, _, _, _, _, _, _, _, _, _, _, _, _, _, _, rfl, _⟩ := h; rfl)
      | (obtain ⟨_, _, _, _, _, _, _, _, _, _, _, _, _, _, _, _, _, _, rfl, _⟩ := h; rfl)
      | (obtain ⟨_, _, _, _, _, _, _, _, _, _, _, _, _, _, _, _, _, _, _, rfl, _⟩ := h; rfl)
  · obtain ⟨n, a, b, rfl, k⟩ := h
    refine ⟨_, (pss_one (ps_ret (pe_and (d1 (ok_is_number T) (hr.mono (by decide)) (by rfl) T.m_is_number T.F_is_number.kp T.b_is_number passL (pa_cons (pv 0) pa_nil)) (pe_one (pe_chain op_le op_le (pv 1) (pv 0) (pv 2)))))), ?_⟩
    dsimp only [cxOf, st_1, st_2, st_3, st_4, st_5, st_6, List.length_cons, List.length_nil, List.replicate_succ, List.replicate_zero, Nat.reduceAdd, Nat.reduceSub]
    walk_at "gs"
    refine ⟨n, rfl, ?_⟩
    walk_at "gs"
    refine i_dec (fun c => ?_) (fun c => ?_)
    · walk_at "gs"
      have e : decide (n ≤ b) = decide (a ≤ n ∧ n ≤ b) := by simp only [c, true_and]
      rw [e]
      exact k
    · have e : false = decide (a ≤ n ∧ n ≤ b) := by simp only [c, false_and, decide_false]
      rw [e]
      exact k
def sp_is_size : Sp := fun vs H Q _ => ∃ n : Int, vs = [.int n] ∧ Q (.bl (decide (1 ≤ n ∧ n ≤ 1000000000000000000))) H
theorem sc_is_size : FnScope ["thing"] ["thing"] (defScope s_is_size) :=
  ⟨rfl, rfl, rfl, by decide +kernel, rfl, by decide +kernel, by decide +kernel⟩
theorem ok_is_size {P : Program} {w : World} {K : PySem.W.Frag} {mg : Str → Option Value} {base : Heap} (T : Txt K mg) :
    FnG P w K mg base 3 T.a_is_size T.d_is_size ["thing"] sp_is_size := by
  refine okD T.F_is_size sc_is_size (fun vs H Q E h => ?_) (fun cdv A outer s H vs Q E hr h => ?_)
  · first
      | (obtain ⟨_, rfl, _⟩ := h; rfl)
      | (obtain ⟨_, _, rfl, _⟩ := h; rfl)
      | (obtain ⟨_, _, _, rfl, _⟩ := h; rfl)
      | (obtain ⟨_, _, _, _, rfl, _⟩ := h; rfl)
      | (obtain ⟨_, _, _, _, _, rfl, _⟩ := h; rfl)
      | (obtain ⟨_, _, _, _, _, _, rfl, _⟩ := h; rfl)
      | (obtain ⟨_, _, _, _, _, _, _, rfl, _⟩ := h; rfl)
      | (obtain ⟨_, _, _, _, _, _, _, _, rfl, _⟩ := h; rfl)
      | (obtain ⟨_, _, _, _, _, _, _, _, _, rfl, _⟩ := h; rfl)
      | (obtain ⟨_, _, _, _, _, _, _, _, _, _, rfl, _⟩ := h; rfl)
      | (obtain ⟨_, _, _, _, _, _, _, _, _, _, _, rfl, _⟩ := h; rfl)
      | (obtain ⟨_, _, _, _, _, _, _, _, _, _, _, _, rfl, _⟩ := h; rfl)
      | (obtain ⟨_, _, _, _, _, _, _, _, _, _, _, _, _, rfl, _⟩ := h; rfl)
      | (obtain ⟨_, _, _, _, _, _, _, _, _, _, _, _, _, _, rfl, _⟩ := h; rfl)
      | (obtain ⟨_, _, _, _, _, _, _, _, _, _, _, _, _, _, _, rfl, _⟩ := h; rfl)
      | (obtain ⟨_, _, _, _, _, _, _, _, _, _, _, _, _, _, _, _, rfl, _⟩ := h; rfl)
      | (obtain ⟨_, _, _, _, _, _, _, _, _, _, _, _, _, _, _, _, _, rfl, _⟩ := h; rfl)
      | (obtain ⟨_, _, _, _, _, _, _, _, _, _, _, _, _, _, _, _, _, _, rfl, _⟩ := h; rfl)
      | (obtain ⟨_, _, _, _, _, _, _, _, _, _, _, _, _, _, _, _, _, _, _, rfl, _⟩ := h; rfl)
  · obtain ⟨n, rfl, k⟩ := h
    refine ⟨_, (pss_one (ps_ret (d1 (ok_is_whole T) (hr.mono (by decide)) (by rfl) T.m_is_whole T.F_is_whole.kp T.b_is_whole passL (pa_cons (pv 0) (pa_cons pe_int (pa_cons (pe_glob (v := V.int 1000000000000000000) rfl T.g_LARGEST ⟨_, rfl⟩) pa_nil)))))), ?_⟩
    dsimp only [cxOf, st_1, st_2, st_3, st_4, st_5, st_6, List.length_cons, List.length_nil, List.replicate_succ, List.replicate_zero, Nat.reduceAdd, Nat.reduceSub]
    walk_at "gs"
    exact ⟨n, 1, _, rfl, k⟩
def sp_want_size : Sp := fun vs H Q _ => ∃ n : Int, vs = [.int n] ∧ (1 ≤ n ∧ n ≤ 1000000000000000000) ∧ Q .non H
theorem sc_want_size : FnScope ["thing"] ["thing"] (defScope s_want_size) :=
  ⟨rfl, rfl, rfl, by decide +kernel, rfl, by decide +kernel, by decide +kernel⟩
theorem ok_want_size {P : Program} {w : World} {K : PySem.W.Frag} {mg : Str → Option Value} {base : Heap} (T : Txt K mg) :
    FnG P w K mg base 4 T.a_want_size T.d_want_size ["thing"] sp_want_size := by
  refine okD T.F_want_size sc_want_size (fun vs H Q E h => ?_) (fun cdv A outer s H vs Q E hr h => ?_)
  · first
      | (obtain ⟨_, rfl, _⟩ := h; rfl)
      | (obtain ⟨_, _, rfl, _⟩ := h; rfl)
      | (obtain ⟨_, _, _, rfl, _⟩ := h; rfl)
      | (obtain ⟨_, _, _, _, rfl, _⟩ := h; rfl)
      | (obtain ⟨_, _, _, _, _, rfl, _⟩ := h; rfl)
      | (obtain ⟨_, _, _, _, _, _, rfl, _⟩ := h; rfl)
      | (obtain ⟨_, _, _, _, _, _, _, rfl, _⟩ := h; rfl)
      | (obtain ⟨_, _, _, _, _, _, _, _, rfl, _⟩ := h; rfl)
      | (obtain ⟨_, _, _, _, _, _, _, _, _, rfl, _⟩ := h; rfl)
      | (obtain ⟨_, _, _, _, _, _, _, _, _, _, rfl, _⟩ := h; rfl)
      | (obtain ⟨_, _, _, _, _, _, _, _, _, _, _, rfl, _⟩ := h; rfl)
      | (obtain ⟨_, _, _, _, _, _, _, _, _, _, _, _, rfl, _⟩ := h; rfl)
      | (obtain ⟨_, _, _, _, _, _, _, _, _, _, _, _, _, rfl, _⟩ := h; rfl)
      | (obtain ⟨_, _, _, _, _, _, _, _, _, _, _, _, _, _, rfl, _⟩ := h; rfl)
      | (obtain ⟨_, _, _, _, _, _, _, _, _, _, _, _, _, _, _, rfl, _⟩ := h; rfl)
      | (obtain ⟨_, _, _, _, _, _, _, _, _, _, _, _, _, _, _, _, rfl, _⟩ := h; rfl)
      | (obtain ⟨_, _, _, _, _, _, _, _, _, _, _, _, _, _, _, _, _, rfl, _⟩ := h; rfl)
      | (obtain ⟨_, _, _, _, _, _, _, _, _, _, _, _, _, _, _, _, _, _, rfl, _⟩ := h; rfl)
      | (obtain ⟨_, _, _, _, _, _, _, _, _, _, _, _, _, _, _, _, _, _, _, rfl, _⟩ := h; rfl)
  · obtain ⟨n, rfl, z, k⟩ := h
    refine ⟨_, (pss_one (ps_if (pt_not (pt_val (d1 (ok_is_size T) (hr.mono (by decide)) (by rfl) T.m_is_size T.F_is_size.kp T.b_is_size passL (pa_cons (pv 0) pa_nil)))) (pss_one ps_never) pss_nil)), ?_⟩
    dsimp only [cxOf, st_1, st_2, st_3, st_4, st_5, st_6, List.length_cons, List.length_nil, List.replicate_succ, List.replicate_zero, Nat.reduceAdd, Nat.reduceSub]
    walk_at "gs"
    refine ⟨n, rfl, ?_⟩
    walk_at "gs"
    refine i_decN (fun c => absurd z c) (fun _ => ?_)
    walk_at "gs"
    exact k
def sp_want_number : Sp := fun vs H Q _ => ∃ n : Int, vs = [.int n] ∧ Q .non H
theorem sc_want_number : FnScope ["thing"] ["thing"] (defScope s_want_number) :=
  ⟨rfl, rfl, rfl, by decide +kernel, rfl, by decide +kernel, by decide +kernel⟩
theorem ok_want_number {P : Program} {w : World} {K : PySem.W.Frag} {mg : Str → Option Value} {base : Heap} (T : Txt K mg) :
    FnG P w K mg base 2 T.a_want_number T.d_want_number ["thing"] sp_want_number := by
  refine okD T.F_want_number sc_want_number (fun vs H Q E h => ?_) (fun cdv A outer s H vs Q E hr h => ?_)
  · first
      | (obtain ⟨_, rfl, _⟩ := h; rfl)
      | (obtain ⟨_, _, rfl, _⟩ := h; rfl)
      | (obtain ⟨_, _, _, rfl, _⟩ := h; rfl)
      | (obtain ⟨_, _, _, _, rfl, _⟩ := h; rfl)
      | (obtain ⟨_, _, _, _, _, rfl, _⟩ := h; rfl)
      | (obtain ⟨_, _, _, _, _, _, rfl, _⟩ := h; rfl)
      | (obtain ⟨_, _, _, _, _, _, _, rfl, _⟩ := h; rfl)
      | (obtain ⟨_, _, _, _, _, _, _, _, rfl, _⟩ := h; rfl)
      | (obtain ⟨_, _, _, _, _, _, _, _, _, rfl, _⟩ := h; rfl)
      | (obtain ⟨_, _, _, _, _, _, _, _, _, _, rfl, _⟩ := h; rfl)
      | (obtain ⟨_, _, _, _, _, _, _, _, _, _, _, rfl, _⟩ := h; rfl)
      | (obtain ⟨_, _, _, _, _, _, _, _, _, _, _, _, rfl, _⟩ := h; rfl)
      | (obtain ⟨_, _, _, _, _, _, _, _, _, _, _, _, _, rfl, _⟩ := h; rfl)
      | (obtain ⟨_, _, _, _, _, _, _, _, _, _, _, _, _, _, rfl, _⟩ := h; rfl)
      | (obtain ⟨_, _, _, _, _, _, _, _, _, _, _, _, _, _, _, rfl, _⟩ := h; rfl)
      | (obtain ⟨_, _, _, _, _, _, _, _, _, _, _, _, _, _, _, _, rfl, _⟩ := h; rfl)
      | (obtain ⟨_, _, _, _, _, _, _, _, _, _, _, _, _, _, _, _, _, rfl, _⟩ := h; rfl)
      | (obtain ⟨_, _, _, _, _, _, _, _, _, _, _, _, _, _, _, _, _, _, rfl, _⟩ := h; rfl)
      | (obtain ⟨_, _, _, _, _, _, _, _, _, _, _, _, _, _, _, _, _, _, _, rfl, _⟩ := h; rfl)
  · obtain ⟨n, rfl, k⟩ := h
    refine ⟨_, (pss_one (ps_if (pt_not (pt_val (d1 (ok_is_number T) (hr.mono (by decide)) (by rfl) T.m_is_number T.F_is_number.kp T.b_is_number passL (pa_cons (pv 0) pa_nil)))) (pss_one ps_never) pss_nil)), ?_⟩
    dsimp only [cxOf, st_1, st_2, st_3, st_4, st_5, st_6, List.length_cons, List.length_nil, List.replicate_succ, List.replicate_zero, Nat.reduceAdd, Nat.reduceSub]
    walk_at "gs"
    refine ⟨n, rfl, ?_⟩
    walk_at "gs"
    exact k
def sp_want_cell : Sp := fun vs H Q _ => ∃ c n : Int, vs = [.int c, .int n] ∧ (0 ≤ c ∧ c < n) ∧ Q .non H
theorem sc_want_cell : FnScope ["thing", "size"] ["thing", "size"] (defScope s_want_cell) :=
  ⟨rfl, rfl, rfl, by decide +kernel, rfl, by decide +kernel, by decide +kernel⟩
theorem ok_want_cell {P : Program} {w : World} {K : PySem.W.Frag} {mg : Str → Option Value} {base : Heap} (T : Txt K mg) :
    FnG P w K mg base 3 T.a_want_cell T.d_want_cell ["thing", "size"] sp_want_cell := by
  refine okD T.F_want_cell sc_want_cell (fun vs H Q E h => ?_) (fun cdv A outer s H vs Q E hr h => ?_)
  · first
      | (obtain ⟨_, rfl, _⟩ := h; rfl)
      | (obtain ⟨_, _, rfl, _⟩ := h; rfl)
      | (obtain ⟨_, _, _, rfl, _⟩ := h; rfl)
      | (obtain ⟨_, _, _, _, rfl, _⟩ := h; rfl)
      | (obtain ⟨_, _, _, _, _, rfl, _⟩ := h; rfl)
      | (obtain ⟨_, _, _, _, _, _, rfl, _⟩ := h; rfl)
      | (obtain ⟨_, _, _, _, _, _, _, rfl, _⟩ := h; rfl)
      | (obtain ⟨_, _, _, _, _, _, _, _, rfl, _⟩ := h; rfl)
      | (obtain ⟨_, _, _, _, _, _, _, _, _, rfl, _⟩ := h; rfl)
      | (obtain ⟨_, _, _, _, _, _, _, _, _, _, rfl, _⟩ := h; rfl)
      | (obtain ⟨_, _, _, _, _, _, _, _, _, _, _, rfl, _⟩ := h; rfl)
      | (obtain ⟨_, _, _, _, _, _, _, _, _, _, _, _, rfl, _⟩ := h; rfl)
      | (obtain ⟨_, _, _, _, _, _, _, _, _, _, _, _, _, rfl, _⟩ := h; rfl)
      | (obtain ⟨_, _, _, _, _, _, _, _, _, _, _, _, _, _, rfl, _⟩ := h; rfl)
      | (obtain ⟨_, _, _, _, _, _, _, _, _, _, _, _, _, _, _, rfl, _⟩ := h; rfl)
      | (obtain ⟨_, _, _, _, _, _, _, _, _, _, _, _, _, _, _, _, rfl, _⟩ := h; rfl)
      | (obtain ⟨_, _, _, _, _, _, _, _, _, _, _, _, _, _, _, _, _, rfl, _⟩ := h; rfl)
      | (obtain ⟨_, _, _, _, _, _, _, _, _, _, _, _, _, _, _, _, _, _, rfl, _⟩ := h; rfl)
      | (obtain ⟨_, _, _, _, _, _, _, _, _, _, _, _, _, _, _, _, _, _, _, rfl, _⟩ := h; rfl)
  · obtain ⟨c, n, rfl, z, k⟩ := h
    refine ⟨_, (pss_one (ps_if (pt_not (pt_val (d1 (ok_is_whole T) (hr.mono (by decide)) (by rfl) T.m_is_whole T.F_is_whole.kp T.b_is_whole passL (pa_cons (pv 0) (pa_cons pe_int (pa_cons (pe_op op_sub (pv 1) pe_int) pa_nil)))))) (pss_one ps_never) pss_nil)), ?_⟩
    dsimp only [cxOf, st_1, st_2, st_3, st_4, st_5, st_6, List.length_cons, List.length_nil, List.replicate_succ, List.replicate_zero, Nat.reduceAdd, Nat.reduceSub]
    walk_at "gs"
    refine ⟨c, 0, n - 1, rfl, ?_⟩
    walk_at "gs"
    refine i_decN (fun d => absurd (by omega) d) (fun _ => ?_)
    walk_at "gs"
    exact k
def sp_want_stretch : Sp := fun vs H Q _ => ∃ b e n : Int, vs = [.int b, .int e, .int n] ∧ (0 ≤ b ∧ b ≤ e ∧ e ≤ n) ∧ Q .non H
theorem sc_want_stretch : FnScope ["begin", "end", "size"] ["begin", "end", "size"] (defScope s_want_stretch) :=
  ⟨rfl, rfl, rfl, by decide +kernel, rfl, by decide +kernel, by decide +kernel⟩
theorem ok_want_stretch {P : Program} {w : World} {K : PySem.W.Frag} {mg : Str → Option Value} {base : Heap} (T : Txt K mg) :
    FnG P w K mg base 3 T.a_want_stretch T.d_want_stretch ["begin", "end", "size"] sp_want_stretch := by
  refine okD T.F_want_stretch sc_want_stretch (fun vs H Q E h => ?_) (fun cdv A outer s H vs Q E hr h => ?_)
  · first
      | (obtain ⟨_, rfl, _⟩ := h; rfl)
      | (obtain ⟨_, _, rfl, _⟩ := h; rfl)
      | (obtain ⟨_, _, _, rfl, _⟩ := h; rfl)
      | (obtain ⟨_, _, _, _, rfl, _⟩ := h; rfl)
      | (obtain ⟨_, _, _, _, _, rfl, _⟩ := h; rfl)
      | (obtain ⟨_, _, _, _, _, _, rfl, _⟩ := h; rfl)
      | (obtain ⟨_, _, _, _, _, _, _, rfl, _⟩ := h; rfl)
      | (obtain ⟨_, _, _, _, _, _, _, _, rfl, _⟩ := h; rfl)
      | (obtain ⟨_, _, _, _, _, _, _, _, _, rfl, _⟩ := h; rfl)
      | (obtain ⟨_, _, _, _, _, _, _, _, _, _, rfl, _⟩ := h; rfl)
      | (obtain ⟨_, _, _, _, _, _, _, _, _, _, _, rfl, _⟩ := h; rfl)
      | (obtain ⟨_, _, _, _, _, _, _, _, _, _, _, _, rfl, _⟩ := h; rfl)
      | (obtain ⟨_, _, _, _, _, _, _, _, _, _, _, _, _, rfl, _⟩ := h; rfl)
      | (obtain ⟨_, _, _, _, _, _, _, _, _, _, _, _, _, _, rfl, _⟩ := h; rfl)
      | (obtain ⟨_, _, _, _, _, _, _, _, _, _, _, _, _, _, _, rfl, _⟩ := h; rfl)
      | (obtain ⟨_, _, _, _, _, _, _, _, _, _, _, _, _, _, _, _, rfl, _⟩ := h; rfl)
      | (obtain ⟨_, _, _, _, _, _, _, _, _, _, _, _, _, _, _, _, _, rfl, _⟩ := h; rfl)
      | (obtain ⟨_, _, _, _, _, _, _, _, _, _, _, _, _, _, _, _, _, _, rfl, _⟩ := h; rfl)
      | (obtain ⟨_, _, _, _, _, _, _, _, _, _, _, _, _, _, _, _, _, _, _, rfl, _⟩ := h; rfl)
  · obtain ⟨b, e, n, rfl, z, k⟩ := h
    refine ⟨_, (pss_one (ps_if (PW.pt (pw_or (pt_not (pt_val (d1 (ok_is_whole T) (hr.mono (by decide)) (by rfl) T.m_is_whole T.F_is_whole.kp T.b_is_whole passL (pa_cons (pv 0) (pa_cons pe_int (pa_cons (pv 2) pa_nil)))))) (pw_or1 (pt_not (pt_val (d1 (ok_is_whole T) (hr.mono (by decide)) (by rfl) T.m_is_whole T.F_is_whole.kp T.b_is_whole passL (pa_cons (pv 1) (pa_cons (pv 0) (pa_cons (pv 2) pa_nil))))))))) (pss_one ps_never) pss_nil)), ?_⟩
    dsimp only [cxOf, st_1, st_2, st_3, st_4, st_5, st_6, List.length_cons, List.length_nil, List.replicate_succ, List.replicate_zero, Nat.reduceAdd, Nat.reduceSub]
    walk_at "gs"
    refine ⟨b, 0, n, rfl, ?_⟩
    walk_at "gs"
    refine i_decN (fun d => absurd (by omega) d) (fun _ => ?_)
    walk_at "gs"
    refine ⟨e, b, n, rfl, ?_⟩
    walk_at "gs"
    refine i_decN (fun d => absurd (by omega) d) (fun _ => ?_)
    walk_at "gs"
    exact k

/-! ### cutting out -/
def sp_cut_out (K : PySem.W.Frag) : Sp := fun vs H Q _ => ∃ (a : Addr) (b e : Int) (ps : List (Int × Int)),
  vs = [.ref a, .int b, .int e] ∧ Dp K H (.ref a) (.list (ps.map d2)) ∧ ps.length ≤ 100000 ∧
  ∀ l H', Fr H l → Kp [] H H' → LD K H' l ((cut b e ps).map d2) → Q (.ref l) H'
theorem sc_cut_out : FnScope ["pairs", "begin", "end", "found", "at", "many", "number", "low", "high"] ["pairs", "begin", "end"] (defScope s_cut_out) :=
  ⟨rfl, rfl, rfl, by decide +kernel, rfl, by decide +kernel, by decide +kernel⟩
theorem ok_cut_out {P : Program} {w : World} {K : PySem.W.Frag} {mg : Str → Option Value} {base : Heap} (T : Txt K mg) :
    FnG P w K mg base 1 T.a_cut_out T.d_cut_out ["pairs", "begin", "end"] (sp_cut_out K) := by
  refine okD T.F_cut_out sc_cut_out (fun vs H Q E h => ?_) (fun cdv A outer s H vs Q E hr h => ?_)
  · first
      | (obtain ⟨_, rfl, _⟩ := h; rfl)
      | (obtain ⟨_, _, rfl, _⟩ := h; rfl)
      | (obtain ⟨_, _, _, rfl, _⟩ := h; rfl)
      | (obtain ⟨_, _, _, _, rfl, _⟩ := h; rfl)
      | (obtain ⟨_, _, _, _, _, rfl, _⟩ := h; rfl)
      | (obtain ⟨_, _, _, _, _, _, rfl, _⟩ := h; rfl)
      | (obtain ⟨_, _, _, _, _, _, _, rfl, _⟩ := h; rfl)
      | (obtain ⟨_, _, _, _, _, _, _, _, rfl, _⟩ := h; rfl)
      | (obtain ⟨_, _, _, _, _, _, _, _, _, rfl, _⟩ := h; rfl)
      | (obtain ⟨_, _, _, _, _, _, _, _, _, _, rfl, _⟩ := h; rfl)
      | (obtain ⟨_, _, _, _, _, _, _, _, _, _, _, rfl, _⟩ := h; rfl)
      | (obtain ⟨_, _, _, _, _, _, _, _, _, _, _, _, rfl, _⟩ := h; rfl)
      | (obtain ⟨_, _, _, _, _, _, _, _, _, _, _, _, _, rfl, _⟩ := h; rfl)
      | (obtain ⟨_, _, _, _, _, _, _, _, _, _, _, _, _, _, rfl, _⟩ := h; rfl)
      | (obtain ⟨_, _, _, _, _, _, _, _, _, _, _, _, _, _, _, rfl, _⟩ := h; rfl)
      | (obtain ⟨_, _, _, _, _, _, _, _, _, _, _, _, _, _, _, _, rfl, _⟩ := h; rfl)
      | (obtain ⟨_, _, _, _, _, _, _, _, _, _, _, _, _, _, _, _, _, rfl, _⟩ := h; rfl)
      | (obtain ⟨_, _, _, _, _, _, _, _, _, _, _, _, _, _, _, _, _, _, rfl, _⟩ := h; rfl)
      | (obtain ⟨_, _, _, _, _, _, _, _, _, _, _, _, _, _, _, _, _, _, _, rfl, _⟩ := h; rfl)
  · obtain ⟨a, b, e, ps, rfl, ha, hps, k⟩ := h
    cases ha
    rename_i xs hsq hall
    have hlen := dpa_len hall
    rw [List.length_map] at hlen
    have cl_Memory := T.cl_Memory
    have na_Memory_pairs := T.na_Memory_pairs
    have na_Memory_wide := T.na_Memory_wide
    have cl_Ties := T.cl_Ties
    have na_Ties_near := T.na_Ties_near
    have na_Ties_own_ever := T.na_Ties_own_ever
    have na_Ties_own_living := T.na_Ties_own_living
    have cl_Store := T.cl_Store
    have na_Store_kept_by_world := T.na_Store_kept_by_world
    have na_Store_own_size := T.na_Store_own_size
    have na_Store_own_ties := T.na_Store_own_ties
    refine ⟨_, (pss_cons (ps_set (i := 3) sc_cut_out.nd rfl (Or.inl rfl) (pe_lst pa_nil))
      (pss_cons (ps_set (i := 4) sc_cut_out.nd rfl (Or.inl rfl) pe_int)
      (pss_cons (ps_for (passes_of rfl) rfl (k_plist (K := K) rfl (pv 0)) (k_gtup (K := K) 2 rfl rfl (pgs_cons (pg_name (i := 5) sc_cut_out.nd rfl (Or.inl rfl)) (pgs_cons (pg_name (i := 6) sc_cut_out.nd rfl (Or.inl rfl)) pgs_nil)))
      (pss_cons (ps_par (i := 7) (j := 8) (by rfl) sc_cut_out.nd rfl rfl (by decide) rfl rfl (pa_cons (pe_callB (c_max2 rfl) (by rfl) T.n_max (by decide +kernel) (pa_cons (pv 1) (pa_cons (pv 4) pa_nil))) (pa_cons (pe_callB (c_min2 rfl) (by rfl) T.n_min (by decide +kernel) (pa_cons (pv 2) (pa_cons (pe_op (k_add (K := K) rfl) (pv 4) (pv 5)) pa_nil))) pa_nil)) (by rfl))
      (pss_cons (ps_if (pt_cmpR op_lt (pv 7) (pv 8) (nomark _)) (pss_one (ps_expr (pe_bm PySem.F.plainAttrs_list PySem.F.slot_list_append PySem.F.type_list_append mt_append (pv 3) (pa_cons (pe_tup (pa_cons (pe_op op_sub (pv 8) (pv 7)) (pa_cons (pv 6) pa_nil))) pa_nil)))) pss_nil)
      (pss_one (ps_aug (i := 4) sc_cut_out.nd rfl (Or.inl rfl) (pv 5) ip_add)))))
      (pss_one (ps_ret (pv 3)))))), ?_⟩
    dsimp only [cxOf, st_1, st_2, st_3, st_4, st_5, st_6, List.length_cons, List.length_nil, List.replicate_succ, List.replicate_zero, Nat.reduceAdd, Nat.reduceSub]
    walk_at "gs"
    refine i_new fun l hl => ?_
    walk_at "gs"
    refine i_each ((Kp.new hl).seqL (ws := []) List.not_mem_nil hsq) (fun i σ H' => ∃ u v w x, σ = [some (.ref a), some (.int b), some (.int e), some (.ref l), some (.int (wide (ps.take i))), u, v, w, x] ∧ Kp [] H H' ∧
      LD K H' l ((cut b e (ps.take i)).map d2)) ?_ ?_ ?_ ?_
    · exact ⟨none, none, none, none, rfl, Kp.new hl, ⟨[], upd_same, .nil⟩⟩
    · rintro i σ H' _ ⟨u, v, w, x, rfl, kp, ld⟩
      exact kp.seqL List.not_mem_nil hsq
    · rintro i x σ H' hx ⟨u, v, w, y, rfl, kp, ld⟩
      obtain ⟨d, hd, hdp⟩ := dpa_getV hall hx
      obtain ⟨p, hp, rfl⟩ := map_get hd
      obtain ⟨pa, rfl, hpt⟩ := dp_pair hdp
      replace hpt := kp.seqT hpt
      obtain ⟨vs, hvs, hall2⟩ := id ld
      have hvl := dpa_len hall2
      rw [List.length_map] at hvl
      have hcl := cut_len b e (ps.take i)
      rw [List.length_take] at hcl
      have hil : i < ps.length := (List.getElem?_eq_some_iff.mp hp).1
      walk_at "gs"
      refine i_dec (fun c => ?_) (fun c => ?_)
      · walk_at "gs"
        refine i_new fun t ht => ?_
        walk_at "gs"
        rw [wide_take hp, cut_take hp, if_pos c, List.map_append]
        refine ⟨_, _, _, _, rfl, by walk_at "g_kp", ?_⟩
        exact ld_push (ws := [l]) (H0 := H') (by walk_at "g_kp") hall2 (imms_d2 _) upd_same (dp_mk2 (m := min e (wide (ps.take i) + p.1) - max b (wide (ps.take i))) (n := p.2) (by walk_at "g_st"))
      · walk_at "gs"
        rw [wide_take hp, cut_take hp, if_neg c, List.append_nil]
        exact ⟨_, _, _, _, rfl, kp, ld⟩
    · rintro σ H' ⟨u, v, w, x, rfl, kp, ld⟩
      walk_at "gs"
      rw [List.take_of_length_le (by omega)] at ld
      exact k l H' hl kp ld

/-! ### comprehensions that change nothing -/
theorem dpa_tail {K : PySem.W.Frag} {H : Hp} : ∀ {ds : List PyData} {vs : List V}, DpAll K H vs ds → DpAll K H vs.tail ds.tail
  | [], _, h => by cases h; exact .nil
  | _ :: _, _, h => by
    cases h with
    | cons _ h2 => exact h2
section
variable {K : PySem.W.Frag} {σ : L2.St} {H : Hp} {Q : VK} {a b : Addr} {xs ys us : List V} {g : TG} {te : TE} {vs : List Nat} {ds : List PyData}
theorem i_mapL (hs : SqL K H a xs) (ys : List V) (hl : ys.length = xs.length) (hz : xs.length ≤ 1000000)
    (st : ∀ (D : Addr) (i : Nat) (x y : V) (H' : Hp) (Q' : VK), Fr H D → xs[i]? = some x → ys[i]? = some y → Kp [] H H' → (∀ H4, Kp [] H' H4 → Q' y H4) →
      g x (wipe σ vs) H' fun σ2 H2 => wipe σ2 vs = wipe σ vs ∧ te σ2 H2 Q')
    (hd : ∀ D H', Fr H D → Kp [] H H' → H' D = some (.lst ys) → Q (.ref D) H') : LcL K (.ref a) g tYes te vs σ H Q := by
  refine i_elts hs (fun D i H' => Kp [] H H' ∧ H' D = some (.lst (ys.take i))) (fun D fD => ⟨Kp.new fD, by rw [List.take_zero]; exact upd_same⟩)
    (fun D i H' _ _ z => z.1.seqL not_nil hs) ?_ ?_
  · rintro D i x H' fD hx ⟨k, e⟩
    have hi := (List.getElem?_eq_some_iff.mp hx).1
    obtain ⟨y, hy⟩ : ∃ y, ys[i]? = some y := ⟨_, List.getElem?_eq_getElem (by omega)⟩
    have q := st D i x y H' (fun y' H4 => ∃ acc, H4 D = some (.lst acc) ∧ acc.length < sizeLine ∧
      (Kp [] H (upd H4 D (.lst (acc ++ [y']))) ∧ upd H4 D (.lst (acc ++ [y'])) D = some (.lst (ys.take (i + 1))))) fD hx hy k (fun H4 k4 => by
        refine ⟨_, k4.at_ _ _ e not_nil, small_sz (by rw [List.length_take]; omega), Kp.upd (Kp.trans k k4) fD, ?_⟩
        rw [List.take_add_one, hy]
        exact upd_same)
    exact q
  · rintro D H' fD ⟨k, e⟩
    rw [List.take_of_length_le (by omega)] at e
    exact hd D H' fD k e
theorem i_mapD (hs : SqL K H a xs) (ds : List PyData) (hi : imms ds = true) (hl : ds.length = xs.length) (hz : xs.length ≤ 1000000)
    (st : ∀ (D : Addr) (i : Nat) (x : V) (d : PyData) (H' : Hp) (Q' : VK), Fr H D → xs[i]? = some x → ds[i]? = some d → Kp [] H H' → (∀ y H4, Kp [] H' H4 → Dp K H4 y d → Q' y H4) →
      g x (wipe σ vs) H' fun σ2 H2 => wipe σ2 vs = wipe σ vs ∧ te σ2 H2 Q')
    (hd : ∀ D H', Fr H D → Kp [] H H' → LD K H' D ds → Q (.ref D) H') : LcL K (.ref a) g tYes te vs σ H Q := by
  have imt : ∀ (l : List PyData) i, imms l = true → imms (l.take i) = true := by
    intro l
    induction l with
    | nil => intro i h; rw [List.take_nil]; rfl
    | cons d l ih =>
      intro i h
      simp only [imms, Bool.and_eq_true] at h
      cases i with
      | zero => rfl
      | succ i =>
        rw [List.take_succ_cons]
        simp only [imms, Bool.and_eq_true]
        exact ⟨h.1, ih i h.2⟩
  have img : ∀ (l : List PyData) (i : Nat) (d : PyData), imms l = true → l[i]? = some d → imm d = true := by
    intro l
    induction l with
    | nil => intro i d _ e; cases e
    | cons d0 l ih =>
      intro i d h e
      simp only [imms, Bool.and_eq_true] at h
      cases i with
      | zero => cases e; exact h.1
      | succ i => exact ih i d h.2 e
  refine i_elts hs (fun D i H' => Kp [] H H' ∧ LD K H' D (ds.take i)) (fun D fD => ⟨Kp.new fD, [], upd_same, by rw [List.take_zero]; exact .nil⟩)
    (fun D i H' _ _ z => z.1.seqL not_nil hs) ?_ ?_
  · rintro D i x H' fD hx ⟨k, ld⟩
    have hi2 := (List.getElem?_eq_some_iff.mp hx).1
    obtain ⟨d, hd2⟩ : ∃ d, ds[i]? = some d := ⟨_, List.getElem?_eq_getElem (by omega)⟩
    have q := st D i x d H' (fun y' H4 => ∃ acc, H4 D = some (.lst acc) ∧ acc.length < sizeLine ∧
      (Kp [] H (upd H4 D (.lst (acc ++ [y']))) ∧ LD K (upd H4 D (.lst (acc ++ [y']))) D (ds.take (i + 1)))) fD hx hd2 k (fun y H4 k4 hy => by
        obtain ⟨acc, e, ha⟩ := ld.kp k4 (imt _ _ hi) not_nil
        have hl2 := dpa_len ha
        rw [List.length_take] at hl2
        refine ⟨acc, e, small_sz (by omega), Kp.upd (Kp.trans k k4) fD, ?_⟩
        rw [List.take_add_one, hd2]
        exact ld_app ha e (imt _ _ hi) hy (img _ _ _ hi hd2))
    exact q
  · rintro D H' fD ⟨k, ld⟩
    rw [List.take_of_length_le (by omega)] at ld
    exact hd D H' fD k ld
theorem i_mapZ (hx : SqL K H a xs) (hy : SqL K H b us) (ys : List V) (hl : ys.length = min xs.length us.length) (hz : ys.length ≤ 1000000)
    (st : ∀ (D : Addr) (i : Nat) (x u y : V) (T : Addr) (H' : Hp) (Q' : VK), Fr H D → xs[i]? = some x → us[i]? = some u → ys[i]? = some y → Kp [] H H' → Fr H' T → (∀ H4, Kp [] H' H4 → Q' y H4) →
      g (.ref T) (wipe σ vs) (upd H' T (.tup [x, u])) fun σ2 H2 => wipe σ2 vs = wipe σ vs ∧ te σ2 H2 Q')
    (hd : ∀ D H', Fr H D → Kp [] H H' → H' D = some (.lst ys) → Q (.ref D) H') : LcZ K [.ref a, .ref b] g tYes te vs σ H Q := by
  refine i_eltz hx hy (fun D i H' => Kp [] H H' ∧ H' D = some (.lst (ys.take i))) (fun D fD => ⟨Kp.new fD, by rw [List.take_zero]; exact upd_same⟩)
    (fun D i H' _ z => ⟨z.1.seqL not_nil hx, z.1.seqL not_nil hy⟩) ?_ ?_
  · rintro D i x u T H' fD hx2 hu ⟨k, e⟩ fT
    have h1 := (List.getElem?_eq_some_iff.mp hx2).1
    have h2 := (List.getElem?_eq_some_iff.mp hu).1
    obtain ⟨y, hy⟩ : ∃ y, ys[i]? = some y := ⟨_, List.getElem?_eq_getElem (by omega)⟩
    have q := st D i x u y T H' (fun y' H4 => ∃ acc, H4 D = some (.lst acc) ∧ acc.length < sizeLine ∧
      (Kp [] H (upd H4 D (.lst (acc ++ [y']))) ∧ upd H4 D (.lst (acc ++ [y'])) D = some (.lst (ys.take (i + 1))))) fD hx2 hu hy k fT (fun H4 k4 => by
        refine ⟨_, k4.at_ _ _ e not_nil, small_sz (by rw [List.length_take]; omega), Kp.upd (Kp.trans k k4) fD, ?_⟩
        rw [List.take_add_one, hy]
        exact upd_same)
    exact q
  · rintro D H' fD ⟨k, e⟩
    rw [List.take_of_length_le (by omega)] at e
    exact hd D H' fD k e
end

/-- no two neighbours of one number -/
def apart : List (Int × Int) → Prop
  | [] => True
  | [_] => True
  | p :: q :: t => p.2 ≠ q.2 ∧ apart (q :: t)
theorem apart_wst (f : List (Int × Int)) (p : Int × Int) (h : apart f) : apart (wst f p) := by
  cases f with
  | nil => trivial
  | cons q t =>
    unfold wst
    simp only
    split
    · rename_i c
      cases t with
      | nil => trivial
      | cons r u => exact ⟨by rw [← c]; exact h.1, h.2⟩
    · rename_i c
      exact ⟨fun z => c z.symm, h⟩
theorem apart_wr : ∀ ps : List (Int × Int), apart (wr ps)
  | [] => trivial
  | p :: ps => by
    unfold wr
    split
    · exact apart_wst _ _ (apart_wr ps)
    · exact apart_wr ps
theorem apart_get : ∀ (ps : List (Int × Int)) (i : Nat) (p q : Int × Int), apart ps → ps[i]? = some p → ps.tail[i]? = some q → p.2 ≠ q.2
  | [], _, _, _, _, e, _ => by cases e
  | [_], i, _, _, _, _, e => by simp at e
  | a :: b :: t, 0, p, q, h, e1, e2 => by
    cases e1
    cases e2
    exact h.1
  | a :: b :: t, i + 1, p, q, h, e1, e2 => apart_get (b :: t) i p q h.2 e1 e2
theorem rep_get {n i : Nat} {v y : V} (h : (List.replicate n v)[i]? = some y) : y = v := by
  rw [List.getElem?_replicate] at h
  split at h
  · exact (Option.some.inj h).symm
  · cases h

def sp_is_run (K : PySem.W.Frag) : Sp := fun vs H Q _ => ∃ (t : Addr) (n v : Int), vs = [.ref t] ∧ SqT K H t [.int n, .int v] ∧ 0 < n ∧ Q (.bl true) H
theorem sc_is_run : FnScope ["thing", "many", "number"] ["thing"] (defScope s_is_run) :=
  ⟨rfl, rfl, rfl, by decide +kernel, rfl, by decide +kernel, by decide +kernel⟩
theorem ok_is_run {P : Program} {w : World} {K : PySem.W.Frag} {mg : Str → Option Value} {base : Heap} (T : Txt K mg) :
    FnG P w K mg base 2 T.a_is_run T.d_is_run ["thing"] (sp_is_run K) := by
  refine okD T.F_is_run sc_is_run (fun vs H Q E h => ?_) (fun cdv A outer s H vs Q E hr h => ?_)
  · first
      | (obtain ⟨_, rfl, _⟩ := h; rfl)
      | (obtain ⟨_, _, rfl, _⟩ := h; rfl)
      | (obtain ⟨_, _, _, rfl, _⟩ := h; rfl)
      | (obtain ⟨_, _, _, _, rfl, _⟩ := h; rfl)
      | (obtain ⟨_, _, _, _, _, rfl, _⟩ := h; rfl)
      | (obtain ⟨_, _, _, _, _, _, rfl, _⟩ := h; rfl)
      | (obtain ⟨_, _, _, _, _, _, _, rfl, _⟩ := h; rfl)
      | (obtain ⟨_, _, _, _, _, _, _, _, rfl, _⟩ := h; rfl)
      | (obtain ⟨_, _, _, _, _, _, _, _, _, rfl, _⟩ := h; rfl)
      | (obtain ⟨_, _, _, _, _, _, _, _, _, _, rfl, _⟩ := h; rfl)
      | (obtain ⟨_, _, _, _, _, _, _, _, _, _, _, rfl, _⟩ := h; rfl)
      | (obtain ⟨_, _, _, _, _, _, _, _, _, _, _, _, rfl, _⟩ := h; rfl)
      | (obtain ⟨_, _, _, _, _, _, _, _, _, _, _, _, _, rfl, _⟩ := h; rfl)
      | (obtain ⟨_, _, _, _, _, _, _, _, _, _, _, _, _, _, rfl, _⟩ := h; rfl)
      | (obtain ⟨_, _, _, _, _, _, _, _, _, _, _, _, _, _, _, rfl, _⟩ := h; rfl)
      | (obtain ⟨_, _, _, _, _, _, _, _, _, _, _, _, _, _, _, _, rfl, _⟩ := h; rfl)
      | (obtain ⟨_, _, _, _, _, _, _, _, _, _, _, _, _, _, _, _, _, rfl, _⟩ := h; rfl)
      | (obtain ⟨_, _, _, _, _, _, _, _, _, _, _, _, _, _, _, _, _, _, rfl, _⟩ := h; rfl)
      | (obtain ⟨_, _, _, _, _, _, _, _, _, _, _, _, _, _, _, _, _, _, _, rfl, _⟩ := h; rfl)
  · obtain ⟨t, n, v, rfl, hT, hn, k⟩ := h
    refine ⟨_, (pss_cons (ps_if (PW.pt (pw_or (pt_not (pt_val (pe_callB (k_isi (K := K) rfl) (by rfl) T.n_isinstance (by decide +kernel) (pa_cons (pv 0) (pa_cons (pe_bltn (v := .ty "tuple") (by rfl) T.n_tuple (by decide +kernel) rfl) pa_nil))))) (pw_or1 (pt_cmpR (k_ne (K := K) rfl hr.r.units) (pe_callB (k_len (K := K) rfl) (by rfl) T.n_len (by decide +kernel) (pa_cons (pv 0) pa_nil)) pe_int (nomark _))))) (pss_one (ps_ret pe_bl)) pss_nil)
      (pss_cons (ps_asg (pv 0) (k_gtup (K := K) 2 rfl rfl (pgs_cons (pg_name (i := 1) sc_is_run.nd rfl (Or.inl rfl)) (pgs_cons (pg_name (i := 2) sc_is_run.nd rfl (Or.inl rfl)) pgs_nil))))
      (pss_one (ps_ret (pe_and (d1 (ok_is_number T) (hr.mono (by decide)) (by rfl) T.m_is_number T.F_is_number.kp T.b_is_number passL (pa_cons (pv 1) pa_nil)) (pe_and (pe_cmpR op_gt (pv 1) pe_int (nomark _)) (pe_one (d1 (ok_is_number T) (hr.mono (by decide)) (by rfl) T.m_is_number T.F_is_number.kp T.b_is_number passL (pa_cons (pv 2) pa_nil))))))))), ?_⟩
    dsimp only [cxOf, st_1, st_2, st_3, st_4, st_5, st_6, List.length_cons, List.length_nil, List.replicate_succ, List.replicate_zero, Nat.reduceAdd, Nat.reduceSub]
    walk_at "gs"
    refine i_isD (dp_mk2 hT) (show kitB "tuple" "tuple" = some true by decide +kernel) ?_
    walk_at "gs"
    refine i_decN (fun z => absurd rfl z) (fun _ => ?_)
    walk_at "gs"
    refine ⟨n, rfl, ?_⟩
    walk_at "gs"
    refine i_dec (fun _ => ?_) (fun z => absurd hn z)
    walk_at "gs"
    exact ⟨v, rfl, k⟩
def sp_are_runs (K : PySem.W.Frag) : Sp := fun vs H Q _ => ∃ (l : Addr) (ps : List (Int × Int)) (n : Int), vs = [.ref l, .int n] ∧ Dp K H (.ref l) (.list (ps.map d2)) ∧
  (∀ q ∈ ps, 0 < q.1) ∧ apart ps ∧ ps.length ≤ 100000 ∧ wide ps = n ∧ ∀ H', Kp [] H H' → Q (.bl true) H'
theorem all_true (n : Nat) : ((List.replicate n true).all id) = true := by
  rw [List.all_eq_true]
  intro b hb
  rw [(List.mem_replicate.mp hb).2]
  rfl
theorem any_false (n : Nat) : ((List.replicate n false).any id) = false := by
  rw [List.any_eq_false]
  intro b hb
  rw [(List.mem_replicate.mp hb).2]
  simp
theorem sc_are_runs : FnScope ["thing", "size", "one", "other", "many", "number"] ["thing", "size"] (defScope s_are_runs) :=
  ⟨rfl, rfl, rfl, by decide +kernel, rfl, by decide +kernel, by decide +kernel⟩
theorem ok_are_runs {P : Program} {w : World} {K : PySem.W.Frag} {mg : Str → Option Value} {base : Heap} (T : Txt K mg) :
    FnG P w K mg base 3 T.a_are_runs T.d_are_runs ["thing", "size"] (sp_are_runs K) := by
  refine okD T.F_are_runs sc_are_runs (fun vs H Q E h => ?_) (fun cdv A outer s H vs Q E hr h => ?_)
  · first
      | (obtain ⟨_, rfl, _⟩ := h; rfl)
      | (obtain ⟨_, _, rfl, _⟩ := h; rfl)
      | (obtain ⟨_, _, _, rfl, _⟩ := h; rfl)
      | (obtain ⟨_, _, _, _, rfl, _⟩ := h; rfl)
      | (obtain ⟨_, _, _, _, _, rfl, _⟩ := h; rfl)
      | (obtain ⟨_, _, _, _, _, _, rfl, _⟩ := h; rfl)
      | (obtain ⟨_, _, _, _, _, _, _, rfl, _⟩ := h; rfl)
      | (obtain ⟨_, _, _, _, _, _, _, _, rfl, _⟩ := h; rfl)
      | (obtain ⟨_, _, _, _, _, _, _, _, _, rfl, _⟩ := h; rfl)
      | (obtain ⟨_, _, _, _, _, _, _, _, _, _, rfl, _⟩ := h; rfl)
      | (obtain ⟨_, _, _, _, _, _, _, _, _, _, _, rfl, _⟩ := h; rfl)
      | (obtain ⟨_, _, _, _, _, _, _, _, _, _, _, _, rfl, _⟩ := h; rfl)
      | (obtain ⟨_, _, _, _, _, _, _, _, _, _, _, _, _, rfl, _⟩ := h; rfl)
      | (obtain ⟨_, _, _, _, _, _, _, _, _, _, _, _, _, _, rfl, _⟩ := h; rfl)
      | (obtain ⟨_, _, _, _, _, _, _, _, _, _, _, _, _, _, _, rfl, _⟩ := h; rfl)
      | (obtain ⟨_, _, _, _, _, _, _, _, _, _, _, _, _, _, _, _, rfl, _⟩ := h; rfl)
      | (obtain ⟨_, _, _, _, _, _, _, _, _, _, _, _, _, _, _, _, _, rfl, _⟩ := h; rfl)
      | (obtain ⟨_, _, _, _, _, _, _, _, _, _, _, _, _, _, _, _, _, _, rfl, _⟩ := h; rfl)
      | (obtain ⟨_, _, _, _, _, _, _, _, _, _, _, _, _, _, _, _, _, _, _, rfl, _⟩ := h; rfl)
  · obtain ⟨l, ps, n, rfl, hl, hpos, hap, hps, hw, k⟩ := h
    have hD := hl
    cases hl
    rename_i xs hsq hall
    have hxl := dpa_len hall
    rw [List.length_map] at hxl
    refine ⟨_, (pss_cons (ps_if (PW.pt (pw_or (pt_not (pt_val (pe_callB (k_isi (K := K) rfl) (by rfl) T.n_isinstance (by decide +kernel) (pa_cons (pv 0) (pa_cons (pe_bltn (v := .ty "list") (by rfl) T.n_list (by decide +kernel) rfl) pa_nil))))) (pw_or1 (pt_not (pt_val (pe_callB (k_all (K := K) rfl rfl) (by rfl) T.n_all (by decide +kernel) (pa_cons (pe_lc (own := [("one", 2)]) (g := (gName 2)) (tt := tYes) rfl sc_are_runs.nd (k_plist (K := K) rfl (pv 0)) (blkOk_by (own := [("one", 2)]) (N := ["thing", "size", "one", "other", "many", "number"]) (sc := defScope s_are_runs) (by decide +kernel)) (fun _ _ _ _ _ => (pg_name (i := 2) sc_are_runs.nd rfl (Or.inl rfl))) (fun _ _ _ _ _ => pts_nil) (fun _ _ _ _ _ => (d1 (ok_is_run T) (hr.mono (by decide)) (by rfl) T.m_is_run T.F_is_run.kp T.b_is_run passL (pa_cons (pv 2) pa_nil)))) pa_nil))))))) (pss_one (ps_ret pe_bl)) pss_nil)
      (pss_cons (ps_if (pt_val (pe_callB (k_any (K := K) rfl rfl) (by rfl) T.n_any (by decide +kernel) (pa_cons (pe_lc (own := [("one", 2), ("other", 3)]) (g := (gTup K 2 (gCons (gName 2) (gCons (gName 3) gNil)))) (tt := tYes) rfl sc_are_runs.nd (k_pzip (K := K) rfl (by rfl) T.n_zip (pa_cons (pv 0) (pa_cons (pe_slice (k_sl (K := K) rfl) (pv 0) (po_some pe_int) po_none) pa_nil))) (blkOk_by (own := [("one", 2), ("other", 3)]) (N := ["thing", "size", "one", "other", "many", "number"]) (sc := defScope s_are_runs) (by decide +kernel)) (fun _ _ _ _ _ => (k_gtup (K := K) 2 rfl rfl (pgs_cons (pg_name (i := 2) sc_are_runs.nd rfl (Or.inl rfl)) (pgs_cons (pg_name (i := 3) sc_are_runs.nd rfl (Or.inl rfl)) pgs_nil)))) (fun _ _ _ _ _ => pts_nil) (fun _ _ _ _ _ => (pe_cmpR (k_eq (K := K) rfl hr.r.units) (pe_ix (k_ix (K := K) rfl) (pv 2) pe_int (fun _ _ => rfl)) (pe_ix (k_ix (K := K) rfl) (pv 3) pe_int (fun _ _ => rfl)) (nomark _)))) pa_nil))) (pss_one (ps_ret pe_bl)) pss_nil)
      (pss_one (ps_ret (pe_cmpR (k_eq (K := K) rfl hr.r.units) (pe_callB (k_sum (K := K) rfl rfl) (by rfl) T.n_sum (by decide +kernel) (pa_cons (pe_lc (own := [("many", 4), ("number", 5)]) (g := (gTup K 2 (gCons (gName 4) (gCons (gName 5) gNil)))) (tt := tYes) rfl sc_are_runs.nd (k_plist (K := K) rfl (pv 0)) (blkOk_by (own := [("many", 4), ("number", 5)]) (N := ["thing", "size", "one", "other", "many", "number"]) (sc := defScope s_are_runs) (by decide +kernel)) (fun _ _ _ _ _ => (k_gtup (K := K) 2 rfl rfl (pgs_cons (pg_name (i := 4) sc_are_runs.nd rfl (Or.inl rfl)) (pgs_cons (pg_name (i := 5) sc_are_runs.nd rfl (Or.inl rfl)) pgs_nil)))) (fun _ _ _ _ _ => pts_nil) (fun _ _ _ _ _ => (pv 4))) pa_nil)) (pv 1) (nomark _)))))), ?_⟩
    dsimp only [cxOf, st_1, st_2, st_3, st_4, st_5, st_6, List.length_cons, List.length_nil, List.replicate_succ, List.replicate_zero, Nat.reduceAdd, Nat.reduceSub]
    walk_at "gs"
    refine i_isD hD (show kitB "list" "list" = some true by decide +kernel) ?_
    walk_at "gs"
    refine i_mapL hsq (List.replicate xs.length (.bl true)) (by rw [List.length_replicate]) (by omega) ?_ ?_
    · intro D i x y H' Q' fD hx hy k1 q
      obtain ⟨d, hd, hdp⟩ := dpa_getV hall hx
      obtain ⟨p, hp, rfl⟩ := map_get hd
      obtain ⟨t, rfl, hT⟩ := dp_pair (dp_imm k1 _ _ rfl hdp)
      have hy2 := rep_get hy
      subst hy2
      walk_at "gs"
      exact ⟨t, p.1, p.2, rfl, hT, hpos p (List.mem_of_getElem? hp), q H' Kp.refl⟩
    intro D1 H1 fD1 k1 e1
    walk_at "gs"
    have eb : List.replicate xs.length (V.bl true) = (List.replicate xs.length true).map V.bl := by rw [List.map_replicate]
    rw [eb] at e1
    refine i_all (SqL.of e1) ?_
    rw [all_true]
    walk_at "gs"
    have hsq1 := k1.seqL not_nil hsq
    walk_at "gs"
    refine i_new fun z hz => ?_
    have ec : cutV xs (some 1) none = xs.tail := by
      cases xs with
      | nil => rfl
      | cons x t => exact cutV_tail x t
    rw [ec]
    have kz : Kp [] H1 (upd H1 z (.lst xs.tail)) := Kp.new hz
    walk_at "gs"
    refine i_mapZ (kz.seqL not_nil hsq1) (SqL.of upd_same) (List.replicate (min xs.length xs.tail.length) (.bl false)) (by rw [List.length_replicate]) (by rw [List.length_replicate]; omega) ?_ ?_
    · intro D i x u y T H' Q' fD hx hu hy k2 fT q
      obtain ⟨d, hd, hdp⟩ := dpa_getV hall hx
      obtain ⟨p, hp, rfl⟩ := map_get hd
      have hall2 : DpAll K H xs.tail (ps.tail.map d2) := by
        rw [List.map_tail]
        exact dpa_tail hall
      obtain ⟨d, hd, hdq⟩ := dpa_getV hall2 hu
      obtain ⟨p2, hp2, rfl⟩ := map_get hd
      have ne := apart_get _ _ _ _ hap hp hp2
      have kk : Kp [] H (upd H' T (.tup [x, u])) := Kp.trans (Kp.trans k1 kz) (Kp.trans k2 (Kp.new fT))
      obtain ⟨t, rfl, hT⟩ := dp_pair (dp_imm kk _ _ rfl hdp)
      obtain ⟨t2, rfl, hT2⟩ := dp_pair (dp_imm kk _ _ rfl hdq)
      have hy2 := rep_get hy
      subst hy2
      walk_at "gs"
      rw [decide_eq_false ne]
      exact q _ (Kp.new fT)
    intro D2 H2 fD2 k2 e2
    walk_at "gs"
    have eb2 : List.replicate (min xs.length xs.tail.length) (V.bl false) = (List.replicate (min xs.length xs.tail.length) false).map V.bl := by rw [List.map_replicate]
    rw [eb2] at e2
    refine i_any (SqL.of e2) ?_
    rw [any_false]
    walk_at "gs"
    have k02 : Kp [] H H2 := Kp.trans (Kp.trans k1 kz) k2
    refine i_mapL (k02.seqL not_nil hsq) ((ps.map (·.1)).map V.int) (by rw [List.length_map, List.length_map]; omega) (by omega) ?_ ?_
    · intro D i x y H' Q' fD hx hy k3 q
      obtain ⟨d, hd, hdp⟩ := dpa_getV hall hx
      obtain ⟨p, hp, rfl⟩ := map_get hd
      obtain ⟨t, rfl, hT⟩ := dp_pair (dp_imm (Kp.trans k02 k3) _ _ rfl hdp)
      rw [List.getElem?_map, List.getElem?_map, hp] at hy
      cases hy
      walk_at "gs"
      exact q H' Kp.refl
    intro D3 H3 fD3 k3 e3
    walk_at "gs"
    refine i_sum (SqL.of e3) ?_
    walk_at "gs"
    have es : (ps.map (·.1)).sum = n := hw
    rw [decide_eq_true es]
    exact k H3 (Kp.trans k02 k3)

/-! ### a memory -/
def mfs (n : Int) (l : Addr) : List (Str × V) := [("wide", .int n), ("pairs", .ref l)]
def MemAt (K : PySem.W.Frag) (C : Addr) (H : Hp) (m : Addr) (cs : List Int) : Prop :=
  ∃ dx l, H m = some (.ins C dx (mfs cs.length l)) ∧ LD K H l ((rle cs).map d2)
/-- b is not the list that m holds its runs in -/
def Off (H : Hp) (m b : Addr) : Prop := ∀ C dx n l, H m = some (.ins C dx (mfs n l)) → l ≠ b
theorem off_mk {H : Hp} {m b l C dx : Addr} {n : Int} (e : H m = some (.ins C dx (mfs n l))) (h : l ≠ b) : Off H m b := by
  intro C2 dx2 n2 l2 e2
  rw [e] at e2
  injection e2 with e2
  injection e2 with _ _ e3
  unfold mfs at e3
  injection e3 with _ e4
  injection e4 with e5 _
  injection e5 with _ e6
  injection e6 with e7
  rw [← e7]
  exact h
theorem off_kp {ws : List Addr} {H H' : Hp} {m b : Addr} (k : Kp ws H H') (t : Tr H m) (n : m ∉ ws) (h : Off H m b) : Off H' m b := by
  obtain ⟨o, e⟩ := t.ex
  intro C dx n2 l e2
  rw [k.at_ _ _ e n] at e2
  cases e2
  exact h _ _ _ _ e
/-- another thing that is written -/
def Oth (H : Hp) (m p : Addr) : Prop := (∃ i xs, H p = some (.lst (.int i :: xs))) ∨ (p ≠ m ∧ ∃ C dx fs, H p = some (.ins C dx fs)) ∨
  ((∃ xs, H p = some (.lst xs)) ∧ Off H m p)
section
variable {K : PySem.W.Frag} {C : Addr} {H H' : Hp} {m p l : Addr} {cs ds : List Int} {ws : List Addr} {o : HO}
theorem ld_ne_int {i : Int} {xs : List V} (h : LD K H l ((rle cs).map d2)) (e : H p = some (.lst (.int i :: xs))) : l ≠ p := by
  intro z
  obtain ⟨vs, q, a⟩ := h
  rw [z, e] at q
  cases q
  cases w : rle cs with
  | nil =>
    rw [w] at a
    cases a
  | cons x t =>
    rw [w] at a
    cases a
    rename_i a b
    cases a
theorem MemAt.kp (h : MemAt K C H m cs) (k : Kp ws H H') (n : ∀ p ∈ ws, Oth H m p) : MemAt K C H' m cs := by
  obtain ⟨dx, l, hm, ld⟩ := h
  refine ⟨dx, l, k.at_ _ _ hm ?_, LD.kp ld k (imms_d2 _) ?_⟩
  · intro z
    rcases n m z with ⟨i, xs, e⟩ | ⟨q, _⟩ | ⟨⟨xs, e⟩, _⟩
    · rw [hm] at e
      cases e
    · exact q rfl
    · rw [hm] at e
      cases e
  · intro z
    rcases n l z with ⟨i, xs, e⟩ | ⟨q, D, dy, fs, e⟩ | ⟨_, e⟩
    · exact ld_ne_int ld e rfl
    · obtain ⟨vs, e2, _⟩ := ld
      rw [e] at e2
      cases e2
    · exact e _ _ _ _ hm rfl
theorem mem_kp0 (h : MemAt K C H m cs) (k : Kp [] H H') : MemAt K C H' m cs := h.kp k fun p hp => nomatch hp
theorem mem_kp1 (h : MemAt K C H m cs) (k : Kp [p] H H') (n : Oth H m p) : MemAt K C H' m cs :=
  h.kp k fun q hq => by
    rw [List.mem_singleton.mp hq]
    exact n
theorem mem_upd (h : MemAt K C H m cs) (f : Fr H p) : MemAt K C (upd H p o) m cs := mem_kp0 h (Kp.new f)
theorem oth_pot (h : PotAt H p) : Oth H m p := by
  obtain ⟨x, y, e, _⟩ := h
  exact .inl ⟨_, _, e⟩
theorem oth_mem (h : MemAt K C H p ds) (n : p ≠ m) : Oth H m p := by
  obtain ⟨dx, l, e, _⟩ := h
  exact .inr (.inl ⟨n, _, _, _, e⟩)
theorem oth_lst {xs : List V} (h : H p = some (.lst xs)) (n : Off H m p) : Oth H m p := .inr (.inr ⟨⟨xs, h⟩, n⟩)
theorem tr_mem (h : MemAt K C H m cs) : Tr H m := by
  obtain ⟨dx, l, e, _⟩ := h
  exact ⟨_, e⟩
theorem pot_ne_mem (h : PotAt H p) (g : MemAt K C H m cs) : p ≠ m := by
  obtain ⟨x, y, e, _⟩ := h
  obtain ⟨dx, l, e2, _⟩ := g
  intro z
  rw [z, e2] at e
  cases e
theorem pot_kp_mem (h : PotAt H p) (g : MemAt K C H m cs) (k : Kp [m] H H') : PotAt H' p := h.kp k (not_one (pot_ne_mem h g))
end
theorem two_ne {H : Hp} {a b : Addr} {u v : HO} (h1 : H a = some u) (h2 : H b = some v) (n : u ≠ v) : a ≠ b := by
  intro z
  rw [z, h2] at h1
  cases h1
  exact n rfl
theorem one_few {p : Int × Int} : [p].length ≤ 10000 := by
  rw [List.length_singleton]
  decide
def sp_init (K : PySem.W.Frag) (C : Addr) : Sp := fun vs H Q _ => ∃ (m dx : Addr) (n v : Int), vs = [.ref m, .int n, .int v] ∧
  H m = some (.ins C dx []) ∧ (1 ≤ n ∧ n ≤ 1000000000000000000) ∧
  ∀ H', Kp [m] H H' → MemAt K C H' m (List.replicate n.toNat v) → (∀ b, Tr H b → Off H' m b) → Q .non H'
theorem rle_one {n v : Int} (h : 1 ≤ n) : rle (List.replicate n.toNat v) = [(n, v)] := by
  have e := rle_rep v [] (n.toNat - 1)
  have e2 : n.toNat - 1 + 1 = n.toNat := by omega
  rw [e2, List.append_nil] at e
  rw [e]
  show [(0 + (((n.toNat - 1 : Nat) : Int) + 1), v)] = _
  congr 2
  omega
theorem sc_Memory_init : FnScope ["self", "size", "number"] ["self", "size", "number"] (defScope s_Memory_init) :=
  ⟨rfl, rfl, rfl, by decide +kernel, rfl, by decide +kernel, by decide +kernel⟩
theorem ok_Memory_init {P : Program} {w : World} {K : PySem.W.Frag} {mg : Str → Option Value} {base : Heap} (T : Txt K mg) :
    FnG P w K mg base 5 T.a_Memory_init T.d_Memory_init ["self", "size", "number"] (sp_init K T.c_Memory) := by
  refine okD T.F_Memory_init sc_Memory_init (fun vs H Q E h => ?_) (fun cdv A outer s H vs Q E hr h => ?_)
  · first
      | (obtain ⟨_, rfl, _⟩ := h; rfl)
      | (obtain ⟨_, _, rfl, _⟩ := h; rfl)
      | (obtain ⟨_, _, _, rfl, _⟩ := h; rfl)
      | (obtain ⟨_, _, _, _, rfl, _⟩ := h; rfl)
      | (obtain ⟨_, _, _, _, _, rfl, _⟩ := h; rfl)
      | (obtain ⟨_, _, _, _, _, _, rfl, _⟩ := h; rfl)
      | (obtain ⟨_, _, _, _, _, _, _, rfl, _⟩ := h; rfl)
      | (obtain ⟨_, _, _, _, _, _, _, _, rfl, _⟩ := h; rfl)
      | (obtain ⟨_, _, _, _, _, _, _, _, _, rfl, _⟩ := h; rfl)
      | (obtain ⟨_, _, _, _, _, _, _, _, _, _, rfl, _⟩ := h; rfl)
      | (obtain ⟨_, _, _, _, _, _, _, _, _, _, _, rfl, _⟩ := h; rfl)
      | (obtain ⟨_, _, _, _, _, _, _, _, _, _, _, _, rfl, _⟩ := h; rfl)
      | (obtain ⟨_, _, _, _, _, _, _, _, _, _, _, _, _, rfl, _⟩ := h; rfl)
      | (obtain ⟨_, _, _, _, _, _, _, _, _, _, _, _, _, _, rfl, _⟩ := h; rfl)
      | (obtain ⟨_, _, _, _, _, _, _, _, _, _, _, _, _, _, _, rfl, _⟩ := h; rfl)
      | (obtain ⟨_, _, _, _, _, _, _, _, _, _, _, _, _, _, _, _, rfl, _⟩ := h; rfl)
      | (obtain ⟨_, _, _, _, _, _, _, _, _, _, _, _, _, _, _, _, _, rfl, _⟩ := h; rfl)
      | (obtain ⟨_, _, _, _, _, _, _, _, _, _, _, _, _, _, _, _, _, _, rfl, _⟩ := h; rfl)
      | (obtain ⟨_, _, _, _, _, _, _, _, _, _, _, _, _, _, _, _, _, _, _, rfl, _⟩ := h; rfl)
  · obtain ⟨m, dx, n, v, rfl, hm, z, k⟩ := h
    have cl_Memory := T.cl_Memory
    have na_Memory_pairs := T.na_Memory_pairs
    have na_Memory_wide := T.na_Memory_wide
    have cl_Ties := T.cl_Ties
    have na_Ties_near := T.na_Ties_near
    have na_Ties_own_ever := T.na_Ties_own_ever
    have na_Ties_own_living := T.na_Ties_own_living
    have cl_Store := T.cl_Store
    have na_Store_kept_by_world := T.na_Store_kept_by_world
    have na_Store_own_size := T.na_Store_own_size
    have na_Store_own_ties := T.na_Store_own_ties
    refine ⟨_, (pss_cons (ps_expr (d1 (ok_want_size T) (hr.mono (by decide)) (by rfl) T.m_want_size T.F_want_size.kp T.b_want_size passL (pa_cons (pv 1) pa_nil)))
      (pss_cons (ps_expr (d1 (ok_want_number T) (hr.mono (by decide)) (by rfl) T.m_want_number T.F_want_number.kp T.b_want_number passL (pa_cons (pv 2) pa_nil)))
      (pss_cons (k_sfld (K := K) rfl (pv 0) (pv 1) rfl)
      (pss_one (k_sfld (K := K) rfl (pv 0) (pe_lst (pa_cons (pe_tup (pa_cons (pv 1) (pa_cons (pv 2) pa_nil))) pa_nil)) rfl))))), ?_⟩
    dsimp only [cxOf, st_1, st_2, st_3, st_4, st_5, st_6, List.length_cons, List.length_nil, List.replicate_succ, List.replicate_zero, Nat.reduceAdd, Nat.reduceSub]
    walk_at "gs"
    refine ⟨n, rfl, z, ?_⟩
    walk_at "gs"
    refine ⟨v, rfl, ?_⟩
    walk_at "gs"
    refine i_new fun t ht => ?_
    walk_at "gs"
    refine i_new fun l hl => ?_
    have ntm : t ≠ m := by walk_at "g_ne"
    have nlm : l ≠ m := by walk_at "g_ne"
    have nlt : t ≠ l := by walk_at "g_ne"
    walk_at "gs"
    refine k _ (by walk_at "g_kp") ⟨dx, l, ?_, ?_⟩ (fun b hb => off_mk upd_same (Ne.symm (fr_tr (tr_upd (tr_upd hb)) hl)))
    · rw [List.length_replicate]
      have e : ((n.toNat : Nat) : Int) = n := by omega
      rw [e]
      exact upd_same
    · rw [rle_one z.1]
      have e1 := ntm
      refine ⟨_, ?_, dpa_one (dp_mk2 (a := t) (m := n) (n := v) (SqT.of ?_))⟩
      · refine upd_nn ?_ ?_
        · exact nlm
        · exact upd_same
      · refine upd_nn ?_ ?_
        · exact ntm
        · refine upd_nn ?_ ?_
          · exact nlt
          · exact upd_same
def sp_msize (K : PySem.W.Frag) (C : Addr) : Sp := fun vs H Q _ => ∃ (m : Addr) (cs : List Int), vs = [.ref m] ∧ MemAt K C H m cs ∧
  Q (.int cs.length) H
theorem sc_Memory_size : FnScope ["self"] ["self"] (defScope s_Memory_size) :=
  ⟨rfl, rfl, rfl, by decide +kernel, rfl, by decide +kernel, by decide +kernel⟩
theorem ok_Memory_size {P : Program} {w : World} {K : PySem.W.Frag} {mg : Str → Option Value} {base : Heap} (T : Txt K mg) :
    FnG P w K mg base 1 T.a_Memory_size T.d_Memory_size ["self"] (sp_msize K T.c_Memory) := by
  refine okD T.F_Memory_size sc_Memory_size (fun vs H Q E h => ?_) (fun cdv A outer s H vs Q E hr h => ?_)
  · first
      | (obtain ⟨_, rfl, _⟩ := h; rfl)
      | (obtain ⟨_, _, rfl, _⟩ := h; rfl)
      | (obtain ⟨_, _, _, rfl, _⟩ := h; rfl)
      | (obtain ⟨_, _, _, _, rfl, _⟩ := h; rfl)
      | (obtain ⟨_, _, _, _, _, rfl, _⟩ := h; rfl)
      | (obtain ⟨_, _, _, _, _, _, rfl, _⟩ := h; rfl)
      | (obtain ⟨_, _, _, _, _, _, _, rfl, _⟩ := h; rfl)
      | (obtain ⟨_, _, _, _, _, _, _, _, rfl, _⟩ := h; rfl)
      | (obtain ⟨_, _, _, _, _, _, _, _, _, rfl, _⟩ := h; rfl)
      | (obtain ⟨_, _, _, _, _, _, _, _, _, _, rfl, _⟩ := h; rfl)
      | (obtain ⟨_, _, _, _, _, _, _, _, _, _, _, rfl, _⟩ := h; rfl)
      | (obtain ⟨_, _, _, _, _, _, _, _, _, _, _, _, rfl, _⟩ := h; rfl)
      | (obtain ⟨_, _, _, _, _, _, _, _, _, _, _, _, _, rfl, _⟩ := h; rfl)
      | (obtain ⟨_, _, _, _, _, _, _, _, _, _, _, _, _, _, rfl, _⟩ := h; rfl)
      | (obtain ⟨_, _, _, _, _, _, _, _, _, _, _, _, _, _, _, rfl, _⟩ := h; rfl)
      | (obtain ⟨_, _, _, _, _, _, _, _, _, _, _, _, _, _, _, _, rfl, _⟩ := h; rfl)
      | (obtain ⟨_, _, _, _, _, _, _, _, _, _, _, _, _, _, _, _, _, rfl, _⟩ := h; rfl)
      | (obtain ⟨_, _, _, _, _, _, _, _, _, _, _, _, _, _, _, _, _, _, rfl, _⟩ := h; rfl)
      | (obtain ⟨_, _, _, _, _, _, _, _, _, _, _, _, _, _, _, _, _, _, _, rfl, _⟩ := h; rfl)
  · obtain ⟨m, cs, rfl, ⟨dx, l, hm, ld⟩, k⟩ := h
    have cl_Memory := T.cl_Memory
    have na_Memory_pairs := T.na_Memory_pairs
    have na_Memory_wide := T.na_Memory_wide
    have cl_Ties := T.cl_Ties
    have na_Ties_near := T.na_Ties_near
    have na_Ties_own_ever := T.na_Ties_own_ever
    have na_Ties_own_living := T.na_Ties_own_living
    have cl_Store := T.cl_Store
    have na_Store_kept_by_world := T.na_Store_kept_by_world
    have na_Store_own_size := T.na_Store_own_size
    have na_Store_own_ties := T.na_Store_own_ties
    refine ⟨_, (pss_one (ps_ret (k_fld (K := K) rfl (pv 0) rfl))), ?_⟩
    dsimp only [cxOf, st_1, st_2, st_3, st_4, st_5, st_6, List.length_cons, List.length_nil, List.replicate_succ, List.replicate_zero, Nat.reduceAdd, Nat.reduceSub]
    walk_at "gs"
    exact k
def sp_runs (K : PySem.W.Frag) (C : Addr) : Sp := fun vs H Q _ => ∃ (m : Addr) (cs : List Int), vs = [.ref m] ∧ MemAt K C H m cs ∧
  ∀ l H', Fr H l → Kp [] H H' → LD K H' l ((rle cs).map d2) → Q (.ref l) H'
theorem sc_Memory_runs : FnScope ["self"] ["self"] (defScope s_Memory_runs) :=
  ⟨rfl, rfl, rfl, by decide +kernel, rfl, by decide +kernel, by decide +kernel⟩
theorem ok_Memory_runs {P : Program} {w : World} {K : PySem.W.Frag} {mg : Str → Option Value} {base : Heap} (T : Txt K mg) :
    FnG P w K mg base 1 T.a_Memory_runs T.d_Memory_runs ["self"] (sp_runs K T.c_Memory) := by
  refine okD T.F_Memory_runs sc_Memory_runs (fun vs H Q E h => ?_) (fun cdv A outer s H vs Q E hr h => ?_)
  · first
      | (obtain ⟨_, rfl, _⟩ := h; rfl)
      | (obtain ⟨_, _, rfl, _⟩ := h; rfl)
      | (obtain ⟨_, _, _, rfl, _⟩ := h; rfl)
      | (obtain ⟨_, _, _, _, rfl, _⟩ := h; rfl)
      | (obtain ⟨_, _, _, _, _, rfl, _⟩ := h; rfl)
      | (obtain ⟨_, _, _, _, _, _, rfl, _⟩ := h; rfl)
      | (obtain ⟨_, _, _, _, _, _, _, rfl, _⟩ := h; rfl)
      | (obtain ⟨_, _, _, _, _, _, _, _, rfl, _⟩ := h; rfl)
      | (obtain ⟨_, _, _, _, _, _, _, _, _, rfl, _⟩ := h; rfl)
      | (obtain ⟨_, _, _, _, _, _, _, _, _, _, rfl, _⟩ := h; rfl)
      | (obtain ⟨_, _, _, _, _, _, _, _, _, _, _, rfl, _⟩ := h; rfl)
      | (obtain ⟨_, _, _, _, _, _, _, _, _, _, _, _, rfl, _⟩ := h; rfl)
      | (obtain ⟨_, _, _, _, _, _, _, _, _, _, _, _, _, rfl, _⟩ := h; rfl)
      | (obtain ⟨_, _, _, _, _, _, _, _, _, _, _, _, _, _, rfl, _⟩ := h; rfl)
      | (obtain ⟨_, _, _, _, _, _, _, _, _, _, _, _, _, _, _, rfl, _⟩ := h; rfl)
      | (obtain ⟨_, _, _, _, _, _, _, _, _, _, _, _, _, _, _, _, rfl, _⟩ := h; rfl)
      | (obtain ⟨_, _, _, _, _, _, _, _, _, _, _, _, _, _, _, _, _, rfl, _⟩ := h; rfl)
      | (obtain ⟨_, _, _, _, _, _, _, _, _, _, _, _, _, _, _, _, _, _, rfl, _⟩ := h; rfl)
      | (obtain ⟨_, _, _, _, _, _, _, _, _, _, _, _, _, _, _, _, _, _, _, rfl, _⟩ := h; rfl)
  · obtain ⟨m, cs, rfl, ⟨dx, l, hm, ld⟩, k⟩ := h
    obtain ⟨vs, hv, hall⟩ := id ld
    have cl_Memory := T.cl_Memory
    have na_Memory_pairs := T.na_Memory_pairs
    have na_Memory_wide := T.na_Memory_wide
    have cl_Ties := T.cl_Ties
    have na_Ties_near := T.na_Ties_near
    have na_Ties_own_ever := T.na_Ties_own_ever
    have na_Ties_own_living := T.na_Ties_own_living
    have cl_Store := T.cl_Store
    have na_Store_kept_by_world := T.na_Store_kept_by_world
    have na_Store_own_size := T.na_Store_own_size
    have na_Store_own_ties := T.na_Store_own_ties
    refine ⟨_, (pss_one (ps_ret (pe_callTy (k_list (K := K) rfl) (by rfl) T.n_list (by decide +kernel) (pa_cons (k_fld (K := K) rfl (pv 0) rfl) pa_nil)))), ?_⟩
    dsimp only [cxOf, st_1, st_2, st_3, st_4, st_5, st_6, List.length_cons, List.length_nil, List.replicate_succ, List.replicate_zero, Nat.reduceAdd, Nat.reduceSub]
    walk_at "gs"
    refine i_new fun q hq => ?_
    walk_at "gs"
    exact k q _ hq (Kp.new hq) ⟨_, upd_same, dpa_imm (Kp.new (ws := []) hq) _ _ (imms_d2 _) hall⟩
def sp_mat (K : PySem.W.Frag) (C : Addr) : Sp := fun vs H Q _ => ∃ (m : Addr) (c : Nat) (cs : List Int) (v : Int), vs = [.ref m, .int c] ∧
  MemAt K C H m cs ∧ (rle cs).length ≤ 10000 ∧ cs[c]? = some v ∧ ∀ H', Kp [] H H' → Q (.int v) H'
theorem sc_Memory_at : FnScope ["self", "cell"] ["self", "cell"] (defScope s_Memory_at) :=
  ⟨rfl, rfl, rfl, by decide +kernel, rfl, by decide +kernel, by decide +kernel⟩
theorem ok_Memory_at {P : Program} {w : World} {K : PySem.W.Frag} {mg : Str → Option Value} {base : Heap} (T : Txt K mg) :
    FnG P w K mg base 4 T.a_Memory_at T.d_Memory_at ["self", "cell"] (sp_mat K T.c_Memory) := by
  refine okD T.F_Memory_at sc_Memory_at (fun vs H Q E h => ?_) (fun cdv A outer s H vs Q E hr h => ?_)
  · first
      | (obtain ⟨_, rfl, _⟩ := h; rfl)
      | (obtain ⟨_, _, rfl, _⟩ := h; rfl)
      | (obtain ⟨_, _, _, rfl, _⟩ := h; rfl)
      | (obtain ⟨_, _, _, _, rfl, _⟩ := h; rfl)
      | (obtain ⟨_, _, _, _, _, rfl, _⟩ := h; rfl)
      | (obtain ⟨_, _, _, _, _, _, rfl, _⟩ := h; rfl)
      | (obtain ⟨_, _, _, _, _, _, _, rfl, _⟩ := h; rfl)
      | (obtain ⟨_, _, _, _, _, _, _, _, rfl, _⟩ := h; rfl)
      | (obtain ⟨_, _, _, _, _, _, _, _, _, rfl, _⟩ := h; rfl)
      | (obtain ⟨_, _, _, _, _, _, _, _, _, _, rfl, _⟩ := h; rfl)
      | (obtain ⟨_, _, _, _, _, _, _, _, _, _, _, rfl, _⟩ := h; rfl)
      | (obtain ⟨_, _, _, _, _, _, _, _, _, _, _, _, rfl, _⟩ := h; rfl)
      | (obtain ⟨_, _, _, _, _, _, _, _, _, _, _, _, _, rfl, _⟩ := h; rfl)
      | (obtain ⟨_, _, _, _, _, _, _, _, _, _, _, _, _, _, rfl, _⟩ := h; rfl)
      | (obtain ⟨_, _, _, _, _, _, _, _, _, _, _, _, _, _, _, rfl, _⟩ := h; rfl)
      | (obtain ⟨_, _, _, _, _, _, _, _, _, _, _, _, _, _, _, _, rfl, _⟩ := h; rfl)
      | (obtain ⟨_, _, _, _, _, _, _, _, _, _, _, _, _, _, _, _, _, rfl, _⟩ := h; rfl)
      | (obtain ⟨_, _, _, _, _, _, _, _, _, _, _, _, _, _, _, _, _, _, rfl, _⟩ := h; rfl)
      | (obtain ⟨_, _, _, _, _, _, _, _, _, _, _, _, _, _, _, _, _, _, _, rfl, _⟩ := h; rfl)
  · obtain ⟨m, c, cs, v, rfl, ⟨dx, l, hm, ld⟩, hn, hv, k⟩ := h
    have hc : c < cs.length := (List.getElem?_eq_some_iff.mp hv).1
    have cl_Memory := T.cl_Memory
    have na_Memory_pairs := T.na_Memory_pairs
    have na_Memory_wide := T.na_Memory_wide
    have cl_Ties := T.cl_Ties
    have na_Ties_near := T.na_Ties_near
    have na_Ties_own_ever := T.na_Ties_own_ever
    have na_Ties_own_living := T.na_Ties_own_living
    have cl_Store := T.cl_Store
    have na_Store_kept_by_world := T.na_Store_kept_by_world
    have na_Store_own_size := T.na_Store_own_size
    have na_Store_own_ties := T.na_Store_own_ties
    refine ⟨_, (pss_cons (ps_expr (d1 (ok_want_cell T) (hr.mono (by decide)) (by rfl) T.m_want_cell T.F_want_cell.kp T.b_want_cell passL (pa_cons (pv 1) (pa_cons (k_fld (K := K) rfl (pv 0) rfl) pa_nil))))
      (pss_one (ps_ret (pe_ix (k_ix (K := K) rfl) (pe_ix (k_ix (K := K) rfl) (d1 (ok_cut_out T) (hr.mono (by decide)) (by rfl) T.m_cut_out T.F_cut_out.kp T.b_cut_out passL (pa_cons (k_fld (K := K) rfl (pv 0) rfl) (pa_cons (pv 1) (pa_cons (pe_op (k_add (K := K) rfl) (pv 1) pe_int) pa_nil)))) pe_int (fun _ _ => rfl)) pe_int (fun _ _ => rfl))))), ?_⟩
    dsimp only [cxOf, st_1, st_2, st_3, st_4, st_5, st_6, List.length_cons, List.length_nil, List.replicate_succ, List.replicate_zero, Nat.reduceAdd, Nat.reduceSub]
    walk_at "gs"
    refine ⟨c, cs.length, rfl, by omega, ?_⟩
    walk_at "gs"
    refine ⟨l, c, c + 1, rle cs, rfl, ld.dp, by omega, fun f H1 hf k1 lf => ?_⟩
    rw [cut_at hv] at lf
    obtain ⟨us, hu, ha⟩ := lf
    cases ha
    rename_i x us hx hus
    cases hus
    obtain ⟨t, rfl, ht⟩ := dp_pair hx
    walk_at "gs"
    exact k H1 k1
def sp_lay (K : PySem.W.Frag) (C : Addr) : Sp := fun vs H Q _ => ∃ (m x : Addr) (b e : Int) (cs : List Int) (ps : List (Int × Int)),
  vs = [.ref m, .int b, .ref x, .int e] ∧ MemAt K C H m cs ∧ LD K H x (ps.map d2) ∧ (rle cs).length ≤ 10000 ∧ ps.length ≤ 10000 ∧
  (0 ≤ b ∧ b ≤ e ∧ e ≤ cs.length) ∧ (cells ps).length = (e - b).toNat ∧
  ∀ H', Kp [m] H H' → MemAt K C H' m (laid cs b.toNat (cells ps) e.toNat) → (∀ b, Tr H b → Off H' m b) → Q .non H'
theorem sc_Memory_lay : FnScope ["self", "begin", "pairs", "end", "ahead", "behind"] ["self", "begin", "pairs", "end"] (defScope s_Memory_lay) :=
  ⟨rfl, rfl, rfl, by decide +kernel, rfl, by decide +kernel, by decide +kernel⟩
theorem ok_Memory_lay {P : Program} {w : World} {K : PySem.W.Frag} {mg : Str → Option Value} {base : Heap} (T : Txt K mg) :
    FnG P w K mg base 2 T.a_Memory_lay T.d_Memory_lay ["self", "begin", "pairs", "end"] (sp_lay K T.c_Memory) := by
  refine okD T.F_Memory_lay sc_Memory_lay (fun vs H Q E h => ?_) (fun cdv A outer s H vs Q E hr h => ?_)
  · first
      | (obtain ⟨_, rfl, _⟩ := h; rfl)
      | (obtain ⟨_, _, rfl, _⟩ := h; rfl)
      | (obtain ⟨_, _, _, rfl, _⟩ := h; rfl)
      | (obtain ⟨_, _, _, _, rfl, _⟩ := h; rfl)
      | (obtain ⟨_, _, _, _, _, rfl, _⟩ := h; rfl)
      | (obtain ⟨_, _, _, _, _, _, rfl, _⟩ := h; rfl)
      | (obtain ⟨_, _, _, _, _, _, _, rfl, _⟩ := h; rfl)
      | (obtain ⟨_, _, _, _, _, _, _, _, rfl, _⟩ := h; rfl)
      | (obtain ⟨_, _, _, _, _, _, _, _, _, rfl, _⟩ := h; rfl)
      | (obtain ⟨_, _, _, _, _, _, _, _, _, _, rfl, _⟩ := h; rfl)
      | (obtain ⟨_, _, _, _, _, _, _, _, _, _, _, rfl, _⟩ := h; rfl)
      | (obtain ⟨_, _, _, _, _, _, _, _, _, _, _, _, rfl, _⟩ := h; rfl)
      | (obtain ⟨_, _, _, _, _, _, _, _, _, _, _, _, _, rfl, _⟩ := h; rfl)
      | (obtain ⟨_, _, _, _, _, _, _, _, _, _, _, _, _, _, rfl, _⟩ := h; rfl)
      | (obtain ⟨_, _, _, _, _, _, _, _, _, _, _, _, _, _, _, rfl, _⟩ := h; rfl)
      | (obtain ⟨_, _, _, _, _, _, _, _, _, _, _, _, _, _, _, _, rfl, _⟩ := h; rfl)
      | (obtain ⟨_, _, _, _, _, _, _, _, _, _, _, _, _, _, _, _, _, rfl, _⟩ := h; rfl)
      | (obtain ⟨_, _, _, _, _, _, _, _, _, _, _, _, _, _, _, _, _, _, rfl, _⟩ := h; rfl)
      | (obtain ⟨_, _, _, _, _, _, _, _, _, _, _, _, _, _, _, _, _, _, _, rfl, _⟩ := h; rfl)
  · obtain ⟨m, x, b, e, cs, ps, rfl, ⟨dx, l, hm, ld⟩, lx, hn, hp, hb, hlen, k⟩ := h
    have n1 := cut_len 0 b (rle cs)
    have n2 := cut_len e cs.length (rle cs)
    have cl_Memory := T.cl_Memory
    have na_Memory_pairs := T.na_Memory_pairs
    have na_Memory_wide := T.na_Memory_wide
    have cl_Ties := T.cl_Ties
    have na_Ties_near := T.na_Ties_near
    have na_Ties_own_ever := T.na_Ties_own_ever
    have na_Ties_own_living := T.na_Ties_own_living
    have cl_Store := T.cl_Store
    have na_Store_kept_by_world := T.na_Store_kept_by_world
    have na_Store_own_size := T.na_Store_own_size
    have na_Store_own_ties := T.na_Store_own_ties
    refine ⟨_, (pss_cons (ps_set (i := 4) sc_Memory_lay.nd rfl (Or.inl rfl) (d1 (ok_cut_out T) (hr.mono (by decide)) (by rfl) T.m_cut_out T.F_cut_out.kp T.b_cut_out passL (pa_cons (k_fld (K := K) rfl (pv 0) rfl) (pa_cons pe_int (pa_cons (pv 1) pa_nil)))))
      (pss_cons (ps_set (i := 5) sc_Memory_lay.nd rfl (Or.inl rfl) (d1 (ok_cut_out T) (hr.mono (by decide)) (by rfl) T.m_cut_out T.F_cut_out.kp T.b_cut_out passL (pa_cons (k_fld (K := K) rfl (pv 0) rfl) (pa_cons (pv 3) (pa_cons (k_fld (K := K) rfl (pv 0) rfl) pa_nil)))))
      (pss_one (k_sfld (K := K) rfl (pv 0) (d1 (ok_joined T) (hr.mono (by decide)) (by rfl) T.m_joined T.F_joined.kp T.b_joined passL (pa_cons (pe_op (k_add (K := K) rfl) (pe_op (k_add (K := K) rfl) (pv 4) (pv 2)) (pv 5)) pa_nil)) rfl)))), ?_⟩
    dsimp only [cxOf, st_1, st_2, st_3, st_4, st_5, st_6, List.length_cons, List.length_nil, List.replicate_succ, List.replicate_zero, Nat.reduceAdd, Nat.reduceSub]
    walk_at "gs"
    refine ⟨l, 0, b, rle cs, rfl, ld.dp, by omega, fun f H1 hf k1 lf => ?_⟩
    have ld1 : LD K H1 l ((rle cs).map d2) := by walk_at "g_ld"
    have lx1 : LD K H1 x (ps.map d2) := by walk_at "g_ld"
    walk_at "gs"
    refine ⟨l, e, cs.length, rle cs, rfl, ld1.dp, by omega, fun g H2 hg k2 lg => ?_⟩
    have lx2 : LD K H2 x (ps.map d2) := by walk_at "g_ld"
    have lf2 : LD K H2 f ((cut 0 b (rle cs)).map d2) := by walk_at "g_ld"
    obtain ⟨xv, hx, ax⟩ := lx2
    obtain ⟨fv, hfv, af⟩ := lf2
    obtain ⟨gv, hgv, ag⟩ := lg
    have lx3 := dpa_len ax
    have lf3 := dpa_len af
    have lg3 := dpa_len ag
    rw [List.length_map] at lx3 lf3 lg3
    walk_at "gs"
    refine i_new fun s hs => ?_
    walk_at "gs"
    refine i_new fun u hu => ?_
    walk_at "gs"
    have kk : Kp [] H2 (upd (upd H2 s (.lst (fv ++ xv))) u (.lst (fv ++ xv ++ gv))) := by walk_at "g_kp"
    refine ⟨u, cut 0 b (rle cs) ++ ps ++ cut e cs.length (rle cs), rfl, ?_, ?_, fun j H3 hj k3 lj => ?_⟩
    · refine LD.dp ⟨_, upd_same, ?_⟩
      rw [List.map_append, List.map_append]
      exact dpa_imm kk _ _ (by rw [← List.map_append, ← List.map_append]; exact imms_d2 _) (dpa_app (dpa_app af ax) ag)
    · rw [List.length_append, List.length_append]
      omega
    · rw [laid_rle] at lj
      walk_at "gs"
      refine k _ (by walk_at "g_kp") ⟨dx, j, ?_, ?_⟩ (fun b hb => off_mk upd_same (Ne.symm (fr_tr (tr_kp kk (tr_kp k2 (tr_kp k1 hb))) hj)))
      · rw [laid_len (by omega) (by omega) (by omega)]
        exact upd_same
      · walk_at "g_ld"

/-! ### a new instance -/
theorem i_made {C : Addr} {sp : Sp} {E : XK} {H : Hp} {Q : VK} {vs : Addr → List V}
    (h : ∀ x dx, Fr H x → Fr H dx → dx ≠ x → sp (vs x) (upd (upd H dx (.own x)) x (.ins C dx [])) (fun v H2 => v = .non ∧ Q (.ref x) H2) E) :
    Made C sp E H Q vs := fun x dx hx hd n => h x dx ⟨hx⟩ ⟨hd⟩ n
theorem kp_made {H H3 : Hp} {x dx : Addr} {o1 o2 : HO} (hx : Fr H x) (hd : Fr H dx) (k : Kp [x] (upd (upd H dx o1) x o2) H3) : Kp [] H H3 :=
  Kp.drop (Kp.trans (Kp.wide (Kp.upd (Kp.upd Kp.refl hd) hx)) k) hx

theorem wide_rle (cs : List Int) : wide (rle cs) = cs.length := by
  rw [← cells_len _ (rle_pos cs), cells_rle]

/-- a new memory -/
def NewMem (K : PySem.W.Frag) (C : Addr) (cs : List Int) (H : Hp) (Q : VK) : Prop :=
  ∀ m H', Fr H m → Kp [] H H' → MemAt K C H' m cs → (∀ b, Tr H b → Off H' m b) → Q (.ref m) H'
def sp_memory_of (K : PySem.W.Frag) (C : Addr) : Sp := fun vs H Q _ => ∃ (l : Addr) (cs : List Int), vs = [.ref l] ∧ Dp K H (.ref l) (.list ((rle cs).map d2)) ∧
  (1 ≤ cs.length ∧ cs.length ≤ 1000000000000000000) ∧ (rle cs).length ≤ 10000 ∧ NewMem K C cs H Q
theorem sc_memory_of : FnScope ["runs", "size", "found", "one", "many", "number"] ["runs"] (defScope s_memory_of) :=
  ⟨rfl, rfl, rfl, by decide +kernel, rfl, by decide +kernel, by decide +kernel⟩
theorem ok_memory_of {P : Program} {w : World} {K : PySem.W.Frag} {mg : Str → Option Value} {base : Heap} (T : Txt K mg) :
    FnG P w K mg base 7 T.a_memory_of T.d_memory_of ["runs"] (sp_memory_of K T.c_Memory) := by
  refine okD T.F_memory_of sc_memory_of (fun vs H Q E h => ?_) (fun cdv A outer s H vs Q E hr h => ?_)
  · first
      | (obtain ⟨_, rfl, _⟩ := h; rfl)
      | (obtain ⟨_, _, rfl, _⟩ := h; rfl)
      | (obtain ⟨_, _, _, rfl, _⟩ := h; rfl)
      | (obtain ⟨_, _, _, _, rfl, _⟩ := h; rfl)
      | (obtain ⟨_, _, _, _, _, rfl, _⟩ := h; rfl)
      | (obtain ⟨_, _, _, _, _, _, rfl, _⟩ := h; rfl)
      | (obtain ⟨_, _, _, _, _, _, _, rfl, _⟩ := h; rfl)
      | (obtain ⟨_, _, _, _, _, _, _, _, rfl, _⟩ := h; rfl)
      | (obtain ⟨_, _, _, _, _, _, _, _, _, rfl, _⟩ := h; rfl)
      | (obtain ⟨_, _, _, _, _, _, _, _, _, _, rfl, _⟩ := h; rfl)
      | (obtain ⟨_, _, _, _, _, _, _, _, _, _, _, rfl, _⟩ := h; rfl)
      | (obtain ⟨_, _, _, _, _, _, _, _, _, _, _, _, rfl, _⟩ := h; rfl)
      | (obtain ⟨_, _, _, _, _, _, _, _, _, _, _, _, _, rfl, _⟩ := h; rfl)
      | (obtain ⟨_, _, _, _, _, _, _, _, _, _, _, _, _, _, rfl, _⟩ := h; rfl)
      | (obtain ⟨_, _, _, _, _, _, _, _, _, _, _, _, _, _, _, rfl, _⟩ := h; rfl)
      | (obtain ⟨_, _, _, _, _, _, _, _, _, _, _, _, _, _, _, _, rfl, _⟩ := h; rfl)
      | (obtain ⟨_, _, _, _, _, _, _, _, _, _, _, _, _, _, _, _, _, rfl, _⟩ := h; rfl)
      | (obtain ⟨_, _, _, _, _, _, _, _, _, _, _, _, _, _, _, _, _, _, rfl, _⟩ := h; rfl)
      | (obtain ⟨_, _, _, _, _, _, _, _, _, _, _, _, _, _, _, _, _, _, _, rfl, _⟩ := h; rfl)
  · obtain ⟨l, cs, rfl, hD, hw, hn, k⟩ := h
    have hl := hD
    cases hl
    rename_i xs hsq hall
    have hxl := dpa_len hall
    rw [List.length_map] at hxl
    have cl_Memory := T.cl_Memory
    have na_Memory_pairs := T.na_Memory_pairs
    have na_Memory_wide := T.na_Memory_wide
    have cl_Ties := T.cl_Ties
    have na_Ties_near := T.na_Ties_near
    have na_Ties_own_ever := T.na_Ties_own_ever
    have na_Ties_own_living := T.na_Ties_own_living
    have cl_Store := T.cl_Store
    have na_Store_kept_by_world := T.na_Store_kept_by_world
    have na_Store_own_size := T.na_Store_own_size
    have na_Store_own_ties := T.na_Store_own_ties
    refine ⟨_, (pss_cons (ps_if (PW.pt (pw_or (pt_not (pt_val (pe_callB (k_isi (K := K) rfl) (by rfl) T.n_isinstance (by decide +kernel) (pa_cons (pv 0) (pa_cons (pe_bltn (v := .ty "list") (by rfl) T.n_list (by decide +kernel) rfl) pa_nil))))) (pw_or1 (pt_not (pt_val (pe_callB (k_all (K := K) rfl rfl) (by rfl) T.n_all (by decide +kernel) (pa_cons (pe_lc (own := [("one", 3)]) (g := (gName 3)) (tt := tYes) rfl sc_memory_of.nd (k_plist (K := K) rfl (pv 0)) (blkOk_by (own := [("one", 3)]) (N := ["runs", "size", "found", "one", "many", "number"]) (sc := defScope s_memory_of) (by decide +kernel)) (fun _ _ _ _ _ => (pg_name (i := 3) sc_memory_of.nd rfl (Or.inl rfl))) (fun _ _ _ _ _ => pts_nil) (fun _ _ _ _ _ => (d1 (ok_is_run T) (hr.mono (by decide)) (by rfl) T.m_is_run T.F_is_run.kp T.b_is_run passL (pa_cons (pv 3) pa_nil)))) pa_nil))))))) (pss_one ps_never) pss_nil)
      (pss_cons (ps_set (i := 1) sc_memory_of.nd rfl (Or.inl rfl) (pe_callB (k_sum (K := K) rfl rfl) (by rfl) T.n_sum (by decide +kernel) (pa_cons (pe_lc (own := [("many", 4), ("number", 5)]) (g := (gTup K 2 (gCons (gName 4) (gCons (gName 5) gNil)))) (tt := tYes) rfl sc_memory_of.nd (k_plist (K := K) rfl (pv 0)) (blkOk_by (own := [("many", 4), ("number", 5)]) (N := ["runs", "size", "found", "one", "many", "number"]) (sc := defScope s_memory_of) (by decide +kernel)) (fun _ _ _ _ _ => (k_gtup (K := K) 2 rfl rfl (pgs_cons (pg_name (i := 4) sc_memory_of.nd rfl (Or.inl rfl)) (pgs_cons (pg_name (i := 5) sc_memory_of.nd rfl (Or.inl rfl)) pgs_nil)))) (fun _ _ _ _ _ => pts_nil) (fun _ _ _ _ _ => (pv 4))) pa_nil)))
      (pss_cons (ps_if (PW.pt (pw_or (pt_not (pt_val (d1 (ok_is_size T) (hr.mono (by decide)) (by rfl) T.m_is_size T.F_is_size.kp T.b_is_size passL (pa_cons (pv 1) pa_nil)))) (pw_or1 (pt_not (pt_val (d1 (ok_are_runs T) (hr.mono (by decide)) (by rfl) T.m_are_runs T.F_are_runs.kp T.b_are_runs passL (pa_cons (pv 0) (pa_cons (pv 1) pa_nil)))))))) (pss_one ps_never) pss_nil)
      (pss_cons (ps_set (i := 2) sc_memory_of.nd rfl (Or.inl rfl) (mk1 T.mk_Memory (ok_Memory_init T) (hr.mono (by decide)) (by rfl) T.mg_Memory T.b_Memory_init passL (pa_cons (pv 1) pa_nil)))
      (pss_cons (ps_expr (dm T.cl_Memory T.me_Memory_lay (ok_Memory_lay T) (hr.mono (by decide)) T.b_Memory_lay passL (pv 2) (pa_cons pe_int (pa_cons (pe_callTy (k_list (K := K) rfl) (by rfl) T.n_list (by decide +kernel) (pa_cons (pv 0) pa_nil)) (pa_cons (pv 1) pa_nil)))))
      (pss_one (ps_ret (pv 2)))))))), ?_⟩
    dsimp only [cxOf, st_1, st_2, st_3, st_4, st_5, st_6, List.length_cons, List.length_nil, List.replicate_succ, List.replicate_zero, Nat.reduceAdd, Nat.reduceSub]
    walk_at "gs"
    refine i_isD hD (show kitB "list" "list" = some true by decide +kernel) ?_
    walk_at "gs"
    refine i_mapL hsq (List.replicate xs.length (.bl true)) (by rw [List.length_replicate]) (by omega) ?_ ?_
    · intro D i x y H' Q' fD hx hy k1 q
      obtain ⟨d, hd, hdp⟩ := dpa_getV hall hx
      obtain ⟨p, hp, rfl⟩ := map_get hd
      obtain ⟨t, rfl, hT⟩ := dp_pair (dp_imm k1 _ _ rfl hdp)
      have hy2 := rep_get hy
      subst hy2
      walk_at "gs"
      exact ⟨t, p.1, p.2, rfl, hT, rle_pos cs p (List.mem_of_getElem? hp), q H' Kp.refl⟩
    intro D1 H1 fD1 k1 e1
    walk_at "gs"
    have eb : List.replicate xs.length (V.bl true) = (List.replicate xs.length true).map V.bl := by rw [List.map_replicate]
    rw [eb] at e1
    refine i_all (SqL.of e1) ?_
    rw [all_true]
    walk_at "gs"
    refine i_mapL (k1.seqL not_nil hsq) (((rle cs).map (·.1)).map V.int) (by rw [List.length_map, List.length_map]; omega) (by omega) ?_ ?_
    · intro D i x y H' Q' fD hx hy k3 q
      obtain ⟨d, hd, hdp⟩ := dpa_getV hall hx
      obtain ⟨p, hp, rfl⟩ := map_get hd
      obtain ⟨t, rfl, hT⟩ := dp_pair (dp_imm (Kp.trans k1 k3) _ _ rfl hdp)
      rw [List.getElem?_map, List.getElem?_map, hp] at hy
      cases hy
      walk_at "gs"
      exact q H' Kp.refl
    intro D2 H2 fD2 k2 e2
    walk_at "gs"
    refine i_sum (SqL.of e2) ?_
    have es : ((rle cs).map (·.1)).sum = cs.length := wide_rle cs
    rw [es]
    have k02 := Kp.trans k1 k2
    have hD2 : Dp K H2 (.ref l) (.list ((rle cs).map d2)) := .lst (k02.seqL not_nil hsq) (dpa_imm k02 _ _ (imms_d2 _) hall)
    walk_at "gs"
    refine ⟨_, rfl, ?_⟩
    walk_at "gs"
    refine i_decN (fun z => absurd (by omega) z) (fun _ => ?_)
    walk_at "gs"
    refine ⟨l, rle cs, cs.length, rfl, hD2, rle_pos cs, apart_wr _, by omega, wide_rle cs, fun H3 k3 => ?_⟩
    walk_at "gs"
    refine i_made fun m d hm hd nd => ?_
    refine ⟨m, d, cs.length, 0, rfl, upd_same, by omega, fun H4 k4 M4 _ => ⟨rfl, ?_⟩⟩
    have k34 := kp_made hm hd k4
    have k04 : Kp [] H H4 := Kp.trans k02 (Kp.trans k3 k34)
    have hsq4 := k04.seqL not_nil hsq
    obtain ⟨dx, lm, hmi, ldm⟩ := id M4
    walk_at "gs"
    refine i_new fun x hx => ?_
    walk_at "gs"
    have kx : Kp [] H4 (upd H4 x (.lst xs)) := Kp.new hx
    have lx : LD K (upd H4 x (.lst xs)) x ((rle cs).map d2) := ⟨xs, upd_same, dpa_imm (Kp.trans k04 kx) _ _ (imms_d2 _) hall⟩
    rw [Int.toNat_natCast] at M4
    refine ⟨m, x, 0, cs.length, List.replicate cs.length 0, rle cs, rfl, mem_upd M4 hx, lx, ?_, hn, ?_, ?_, fun H5 k5 M5 of5 => ?_⟩
    · have e := rle_one (n := cs.length) (v := 0) (by omega)
      rw [Int.toNat_natCast] at e
      rw [e]
      exact one_few
    · rw [List.length_replicate]
      omega
    · rw [cells_rle]
      omega
    · have el : laid (List.replicate cs.length 0) 0 cs cs.length = cs := by
        unfold laid
        rw [List.take_zero, List.nil_append, List.drop_eq_nil_of_le (by rw [List.length_replicate]; omega), List.append_nil]
      rw [cells_rle, Int.toNat_natCast] at M5
      have el2 : laid (List.replicate cs.length 0) (0 : Int).toNat cs cs.length = cs := el
      rw [el2] at M5
      walk_at "gs"
      have hm0 : Fr H m := (Kp.trans k02 k3).free hm
      exact k m H5 hm0 (Kp.drop (Kp.trans (Kp.wide (Kp.trans k04 kx)) k5) hm0) M5 (fun b hb => of5 b (tr_kp (Kp.trans k04 kx) hb))
def sp_copied (K : PySem.W.Frag) (C : Addr) : Sp := fun vs H Q _ => ∃ (m0 : Addr) (cs : List Int), vs = [.ref m0] ∧ MemAt K C H m0 cs ∧
  (1 ≤ cs.length ∧ cs.length ≤ 1000000000000000000) ∧ (rle cs).length ≤ 10000 ∧ NewMem K C cs H Q
theorem sc_Memory_copied : FnScope ["self"] ["self"] (defScope s_Memory_copied) :=
  ⟨rfl, rfl, rfl, by decide +kernel, rfl, by decide +kernel, by decide +kernel⟩
theorem ok_Memory_copied {P : Program} {w : World} {K : PySem.W.Frag} {mg : Str → Option Value} {base : Heap} (T : Txt K mg) :
    FnG P w K mg base 8 T.a_Memory_copied T.d_Memory_copied ["self"] (sp_copied K T.c_Memory) := by
  refine okD T.F_Memory_copied sc_Memory_copied (fun vs H Q E h => ?_) (fun cdv A outer s H vs Q E hr h => ?_)
  · first
      | (obtain ⟨_, rfl, _⟩ := h; rfl)
      | (obtain ⟨_, _, rfl, _⟩ := h; rfl)
      | (obtain ⟨_, _, _, rfl, _⟩ := h; rfl)
      | (obtain ⟨_, _, _, _, rfl, _⟩ := h; rfl)
      | (obtain ⟨_, _, _, _, _, rfl, _⟩ := h; rfl)
      | (obtain ⟨_, _, _, _, _, _, rfl, _⟩ := h; rfl)
      | (obtain ⟨_, _, _, _, _, _, _, rfl, _⟩ := h; rfl)
      | (obtain ⟨_, _, _, _, _, _, _, _, rfl, _⟩ := h; rfl)
      | (obtain ⟨_, _, _, _, _, _, _, _, _, rfl, _⟩ := h; rfl)
      | (obtain ⟨_, _, _, _, _, _, _, _, _, _, rfl, _⟩ := h; rfl)
      | (obtain ⟨_, _, _, _, _, _, _, _, _, _, _, rfl, _⟩ := h; rfl)
      | (obtain ⟨_, _, _, _, _, _, _, _, _, _, _, _, rfl, _⟩ := h; rfl)
      | (obtain ⟨_, _, _, _, _, _, _, _, _, _, _, _, _, rfl, _⟩ := h; rfl)
      | (obtain ⟨_, _, _, _, _, _, _, _, _, _, _, _, _, _, rfl, _⟩ := h; rfl)
      | (obtain ⟨_, _, _, _, _, _, _, _, _, _, _, _, _, _, _, rfl, _⟩ := h; rfl)
      | (obtain ⟨_, _, _, _, _, _, _, _, _, _, _, _, _, _, _, _, rfl, _⟩ := h; rfl)
      | (obtain ⟨_, _, _, _, _, _, _, _, _, _, _, _, _, _, _, _, _, rfl, _⟩ := h; rfl)
      | (obtain ⟨_, _, _, _, _, _, _, _, _, _, _, _, _, _, _, _, _, _, rfl, _⟩ := h; rfl)
      | (obtain ⟨_, _, _, _, _, _, _, _, _, _, _, _, _, _, _, _, _, _, _, rfl, _⟩ := h; rfl)
  · obtain ⟨m0, cs, rfl, ⟨dx, l, hm, ld⟩, hw, hn, k⟩ := h
    have cl_Memory := T.cl_Memory
    have na_Memory_pairs := T.na_Memory_pairs
    have na_Memory_wide := T.na_Memory_wide
    have cl_Ties := T.cl_Ties
    have na_Ties_near := T.na_Ties_near
    have na_Ties_own_ever := T.na_Ties_own_ever
    have na_Ties_own_living := T.na_Ties_own_living
    have cl_Store := T.cl_Store
    have na_Store_kept_by_world := T.na_Store_kept_by_world
    have na_Store_own_size := T.na_Store_own_size
    have na_Store_own_ties := T.na_Store_own_ties
    refine ⟨_, (pss_one (ps_ret (d1 (ok_memory_of T) (hr.mono (by decide)) (by rfl) T.m_memory_of T.F_memory_of.kp T.b_memory_of passL (pa_cons (k_fld (K := K) rfl (pv 0) rfl) pa_nil)))), ?_⟩
    dsimp only [cxOf, st_1, st_2, st_3, st_4, st_5, st_6, List.length_cons, List.length_nil, List.replicate_succ, List.replicate_zero, Nat.reduceAdd, Nat.reduceSub]
    walk_at "gs"
    exact ⟨l, cs, rfl, ld.dp, hw, hn, k⟩

def sp_put (K : PySem.W.Frag) (C : Addr) : Sp := fun vs H Q _ => ∃ (m : Addr) (c v : Int) (cs : List Int),
  vs = [.ref m, .int c, .int v] ∧ MemAt K C H m cs ∧ (rle cs).length ≤ 10000 ∧ (0 ≤ c ∧ c < cs.length) ∧
  ∀ H', Kp [m] H H' → MemAt K C H' m (laid cs c.toNat [v] (c + 1).toNat) → (∀ b, Tr H b → Off H' m b) → Q .non H'
theorem sc_Memory_put : FnScope ["self", "cell", "number"] ["self", "cell", "number"] (defScope s_Memory_put) :=
  ⟨rfl, rfl, rfl, by decide +kernel, rfl, by decide +kernel, by decide +kernel⟩
theorem ok_Memory_put {P : Program} {w : World} {K : PySem.W.Frag} {mg : Str → Option Value} {base : Heap} (T : Txt K mg) :
    FnG P w K mg base 4 T.a_Memory_put T.d_Memory_put ["self", "cell", "number"] (sp_put K T.c_Memory) := by
  refine okD T.F_Memory_put sc_Memory_put (fun vs H Q E h => ?_) (fun cdv A outer s H vs Q E hr h => ?_)
  · first
      | (obtain ⟨_, rfl, _⟩ := h; rfl)
      | (obtain ⟨_, _, rfl, _⟩ := h; rfl)
      | (obtain ⟨_, _, _, rfl, _⟩ := h; rfl)
      | (obtain ⟨_, _, _, _, rfl, _⟩ := h; rfl)
      | (obtain ⟨_, _, _, _, _, rfl, _⟩ := h; rfl)
      | (obtain ⟨_, _, _, _, _, _, rfl, _⟩ := h; rfl)
      | (obtain ⟨_, _, _, _, _, _, _, rfl, _⟩ := h; rfl)
      | (obtain ⟨_, _, _, _, _, _, _, _, rfl, _⟩ := h; rfl)
      | (obtain ⟨_, _, _, _, _, _, _, _, _, rfl, _⟩ := h; rfl)
      | (obtain ⟨_, _, _, _, _, _, _, _, _, _, rfl, _⟩ := h; rfl)
      | (obtain ⟨_, _, _, _, _, _, _, _, _, _, _, rfl, _⟩ := h; rfl)
      | (obtain ⟨_, _, _, _, _, _, _, _, _, _, _, _, rfl, _⟩ := h; rfl)
      | (obtain ⟨_, _, _, _, _, _, _, _, _, _, _, _, _, rfl, _⟩ := h; rfl)
      | (obtain ⟨_, _, _, _, _, _, _, _, _, _, _, _, _, _, rfl, _⟩ := h; rfl)
      | (obtain ⟨_, _, _, _, _, _, _, _, _, _, _, _, _, _, _, rfl, _⟩ := h; rfl)
      | (obtain ⟨_, _, _, _, _, _, _, _, _, _, _, _, _, _, _, _, rfl, _⟩ := h; rfl)
      | (obtain ⟨_, _, _, _, _, _, _, _, _, _, _, _, _, _, _, _, _, rfl, _⟩ := h; rfl)
      | (obtain ⟨_, _, _, _, _, _, _, _, _, _, _, _, _, _, _, _, _, _, rfl, _⟩ := h; rfl)
      | (obtain ⟨_, _, _, _, _, _, _, _, _, _, _, _, _, _, _, _, _, _, _, rfl, _⟩ := h; rfl)
  · obtain ⟨m, c, v, cs, rfl, hM, hn, hc, k⟩ := h
    obtain ⟨dx, l, hm, ld⟩ := id hM
    have cl_Memory := T.cl_Memory
    have na_Memory_pairs := T.na_Memory_pairs
    have na_Memory_wide := T.na_Memory_wide
    have cl_Ties := T.cl_Ties
    have na_Ties_near := T.na_Ties_near
    have na_Ties_own_ever := T.na_Ties_own_ever
    have na_Ties_own_living := T.na_Ties_own_living
    have cl_Store := T.cl_Store
    have na_Store_kept_by_world := T.na_Store_kept_by_world
    have na_Store_own_size := T.na_Store_own_size
    have na_Store_own_ties := T.na_Store_own_ties
    refine ⟨_, (pss_cons (ps_expr (d1 (ok_want_cell T) (hr.mono (by decide)) (by rfl) T.m_want_cell T.F_want_cell.kp T.b_want_cell passL (pa_cons (pv 1) (pa_cons (k_fld (K := K) rfl (pv 0) rfl) pa_nil))))
      (pss_cons (ps_expr (d1 (ok_want_number T) (hr.mono (by decide)) (by rfl) T.m_want_number T.F_want_number.kp T.b_want_number passL (pa_cons (pv 2) pa_nil)))
      (pss_one (ps_expr (dm T.cl_Memory T.me_Memory_lay (ok_Memory_lay T) (hr.mono (by decide)) T.b_Memory_lay passL (pv 0) (pa_cons (pv 1) (pa_cons (pe_lst (pa_cons (pe_tup (pa_cons pe_int (pa_cons (pv 2) pa_nil))) pa_nil)) (pa_cons (pe_op (k_add (K := K) rfl) (pv 1) pe_int) pa_nil)))))))), ?_⟩
    dsimp only [cxOf, st_1, st_2, st_3, st_4, st_5, st_6, List.length_cons, List.length_nil, List.replicate_succ, List.replicate_zero, Nat.reduceAdd, Nat.reduceSub]
    walk_at "gs"
    refine ⟨c, cs.length, rfl, by omega, ?_⟩
    walk_at "gs"
    refine ⟨v, rfl, ?_⟩
    walk_at "gs"
    refine i_new fun t ht => ?_
    walk_at "gs"
    refine i_new fun x hx => ?_
    walk_at "gs"
    have e0 : cells [((1 : Int), v)] = [v] := rfl
    refine ⟨m, x, c, c + 1, cs, [(1, v)], rfl, ?_, ⟨_, upd_same, dpa_one (dp_mk2 (a := t) (m := 1) (n := v) (by walk_at "g_st"))⟩,
      hn, one_few, by omega, by rw [e0, List.length_singleton]; omega, fun H' k1 hM1 of => ?_⟩
    · exact mem_upd (mem_upd hM (by walk_at "g_fr")) (by walk_at "g_fr")
    · rw [e0] at hM1
      walk_at "gs"
      exact k H' (by walk_at "g_kp") hM1 (fun b hb => of b (tr_upd (tr_upd hb)))

def sp_fill (K : PySem.W.Frag) (C : Addr) : Sp := fun vs H Q _ => ∃ (m : Addr) (b e v : Int) (cs : List Int),
  vs = [.ref m, .int b, .int e, .int v] ∧ MemAt K C H m cs ∧ (rle cs).length ≤ 10000 ∧ (0 ≤ b ∧ b ≤ e ∧ e ≤ cs.length) ∧
  ∀ H', Kp [m] H H' → MemAt K C H' m (laid cs b.toNat (List.replicate (e - b).toNat v) e.toNat) → (∀ b, Tr H b → Off H' m b) → Q .non H'
theorem sc_Memory_fill : FnScope ["self", "begin", "end", "number"] ["self", "begin", "end", "number"] (defScope s_Memory_fill) :=
  ⟨rfl, rfl, rfl, by decide +kernel, rfl, by decide +kernel, by decide +kernel⟩
theorem ok_Memory_fill {P : Program} {w : World} {K : PySem.W.Frag} {mg : Str → Option Value} {base : Heap} (T : Txt K mg) :
    FnG P w K mg base 4 T.a_Memory_fill T.d_Memory_fill ["self", "begin", "end", "number"] (sp_fill K T.c_Memory) := by
  refine okD T.F_Memory_fill sc_Memory_fill (fun vs H Q E h => ?_) (fun cdv A outer s H vs Q E hr h => ?_)
  · first
      | (obtain ⟨_, rfl, _⟩ := h; rfl)
      | (obtain ⟨_, _, rfl, _⟩ := h; rfl)
      | (obtain ⟨_, _, _, rfl, _⟩ := h; rfl)
      | (obtain ⟨_, _, _, _, rfl, _⟩ := h; rfl)
      | (obtain ⟨_, _, _, _, _, rfl, _⟩ := h; rfl)
      | (obtain ⟨_, _, _, _, _, _, rfl, _⟩ := h; rfl)
      | (obtain ⟨_, _, _, _, _, _, _, rfl, _⟩ := h; rfl)
      | (obtain ⟨_, _, _, _, _, _, _, _, rfl, _⟩ := h; rfl)
      | (obtain ⟨_, _, _, _, _, _, _, _, _, rfl, _⟩ := h; rfl)
      | (obtain ⟨_, _, _, _, _, _, _, _, _, _, rfl, _⟩ := h; rfl)
      | (obtain ⟨_, _, _, _, _, _, _, _, _, _, _, rfl, _⟩ := h; rfl)
      | (obtain ⟨_, _, _, _, _, _, _, _, _, _, _, _, rfl, _⟩ := h; rfl)
      | (obtain ⟨_, _, _, _, _, _, _, _, _, _, _, _, _, rfl, _⟩ := h; rfl)
      | (obtain ⟨_, _, _, _, _, _, _, _, _, _, _, _, _, _, rfl, _⟩ := h; rfl)
      | (obtain ⟨_, _, _, _, _, _, _, _, _, _, _, _, _, _, _, rfl, _⟩ := h; rfl)
      | (obtain ⟨_, _, _, _, _, _, _, _, _, _, _, _, _, _, _, _, rfl, _⟩ := h; rfl)
      | (obtain ⟨_, _, _, _, _, _, _, _, _, _, _, _, _, _, _, _, _, rfl, _⟩ := h; rfl)
      | (obtain ⟨_, _, _, _, _, _, _, _, _, _, _, _, _, _, _, _, _, _, rfl, _⟩ := h; rfl)
      | (obtain ⟨_, _, _, _, _, _, _, _, _, _, _, _, _, _, _, _, _, _, _, rfl, _⟩ := h; rfl)
  · obtain ⟨m, b, e, v, cs, rfl, hM, hn, hc, k⟩ := h
    obtain ⟨dx, l, hm, ld⟩ := id hM
    have cl_Memory := T.cl_Memory
    have na_Memory_pairs := T.na_Memory_pairs
    have na_Memory_wide := T.na_Memory_wide
    have cl_Ties := T.cl_Ties
    have na_Ties_near := T.na_Ties_near
    have na_Ties_own_ever := T.na_Ties_own_ever
    have na_Ties_own_living := T.na_Ties_own_living
    have cl_Store := T.cl_Store
    have na_Store_kept_by_world := T.na_Store_kept_by_world
    have na_Store_own_size := T.na_Store_own_size
    have na_Store_own_ties := T.na_Store_own_ties
    refine ⟨_, (pss_cons (ps_expr (d1 (ok_want_stretch T) (hr.mono (by decide)) (by rfl) T.m_want_stretch T.F_want_stretch.kp T.b_want_stretch passL (pa_cons (pv 1) (pa_cons (pv 2) (pa_cons (k_fld (K := K) rfl (pv 0) rfl) pa_nil)))))
      (pss_cons (ps_expr (d1 (ok_want_number T) (hr.mono (by decide)) (by rfl) T.m_want_number T.F_want_number.kp T.b_want_number passL (pa_cons (pv 3) pa_nil)))
      (pss_one (ps_expr (dm T.cl_Memory T.me_Memory_lay (ok_Memory_lay T) (hr.mono (by decide)) T.b_Memory_lay passL (pv 0) (pa_cons (pv 1) (pa_cons (pe_lst (pa_cons (pe_tup (pa_cons (pe_op op_sub (pv 2) (pv 1)) (pa_cons (pv 3) pa_nil))) pa_nil)) (pa_cons (pv 2) pa_nil)))))))), ?_⟩
    dsimp only [cxOf, st_1, st_2, st_3, st_4, st_5, st_6, List.length_cons, List.length_nil, List.replicate_succ, List.replicate_zero, Nat.reduceAdd, Nat.reduceSub]
    walk_at "gs"
    refine ⟨b, e, cs.length, rfl, by omega, ?_⟩
    walk_at "gs"
    refine ⟨v, rfl, ?_⟩
    walk_at "gs"
    refine i_new fun t ht => ?_
    walk_at "gs"
    refine i_new fun x hx => ?_
    walk_at "gs"
    have e0 : cells [(e - b, v)] = List.replicate (e - b).toNat v := by rw [cells_cons, cells_nil, List.append_nil]
    refine ⟨m, x, b, e, cs, [(e - b, v)], rfl, ?_, ⟨_, upd_same, dpa_one (dp_mk2 (a := t) (m := e - b) (n := v) (by walk_at "g_st"))⟩,
      hn, one_few, by omega, by rw [e0, List.length_replicate], fun H' k1 hM1 of => ?_⟩
    · exact mem_upd (mem_upd hM (by walk_at "g_fr")) (by walk_at "g_fr")
    · rw [e0] at hM1
      walk_at "gs"
      exact k H' (by walk_at "g_kp") hM1 (fun b hb => of b (tr_upd (tr_upd hb)))

def sp_bring (K : PySem.W.Frag) (C : Addr) : Sp := fun vs H Q _ => ∃ (m : Addr) (b e t : Int) (src : V) (s : Addr) (cs ds : List Int),
  vs = [.ref m, .int b, .int e, .int t, src] ∧ MemAt K C H m cs ∧ MemAt K C H s ds ∧
  ((src = .non ∧ m = s ∧ cs = ds) ∨ src = .ref s) ∧ ds.length = cs.length ∧ (rle cs).length ≤ 10000 ∧ (rle ds).length ≤ 10000 ∧
  (0 ≤ b ∧ b ≤ e ∧ e ≤ cs.length) ∧ (0 ≤ t ∧ t ≤ cs.length - (e - b)) ∧
  ∀ H', Kp [m] H H' → MemAt K C H' m (laid cs t.toNat ((ds.drop b.toNat).take (e.toNat - b.toNat)) (t + e - b).toNat) → (∀ b, Tr H b → Off H' m b) → Q .non H'
theorem sc_Memory_bring : FnScope ["self", "begin", "end", "to", "source", "given"] ["self", "begin", "end", "to", "source"] (defScope s_Memory_bring) :=
  ⟨rfl, rfl, rfl, by decide +kernel, rfl, by decide +kernel, by decide +kernel⟩
theorem ok_Memory_bring {P : Program} {w : World} {K : PySem.W.Frag} {mg : Str → Option Value} {base : Heap} (T : Txt K mg) :
    FnG P w K mg base 4 T.a_Memory_bring T.d_Memory_bring ["self", "begin", "end", "to", "source"] (sp_bring K T.c_Memory) := by
  refine okD T.F_Memory_bring sc_Memory_bring (fun vs H Q E h => ?_) (fun cdv A outer s H vs Q E hr h => ?_)
  · first
      | (obtain ⟨_, rfl, _⟩ := h; rfl)
      | (obtain ⟨_, _, rfl, _⟩ := h; rfl)
      | (obtain ⟨_, _, _, rfl, _⟩ := h; rfl)
      | (obtain ⟨_, _, _, _, rfl, _⟩ := h; rfl)
      | (obtain ⟨_, _, _, _, _, rfl, _⟩ := h; rfl)
      | (obtain ⟨_, _, _, _, _, _, rfl, _⟩ := h; rfl)
      | (obtain ⟨_, _, _, _, _, _, _, rfl, _⟩ := h; rfl)
      | (obtain ⟨_, _, _, _, _, _, _, _, rfl, _⟩ := h; rfl)
      | (obtain ⟨_, _, _, _, _, _, _, _, _, rfl, _⟩ := h; rfl)
      | (obtain ⟨_, _, _, _, _, _, _, _, _, _, rfl, _⟩ := h; rfl)
      | (obtain ⟨_, _, _, _, _, _, _, _, _, _, _, rfl, _⟩ := h; rfl)
      | (obtain ⟨_, _, _, _, _, _, _, _, _, _, _, _, rfl, _⟩ := h; rfl)
      | (obtain ⟨_, _, _, _, _, _, _, _, _, _, _, _, _, rfl, _⟩ := h; rfl)
      | (obtain ⟨_, _, _, _, _, _, _, _, _, _, _, _, _, _, rfl, _⟩ := h; rfl)
      | (obtain ⟨_, _, _, _, _, _, _, _, _, _, _, _, _, _, _, rfl, _⟩ := h; rfl)
      | (obtain ⟨_, _, _, _, _, _, _, _, _, _, _, _, _, _, _, _, rfl, _⟩ := h; rfl)
      | (obtain ⟨_, _, _, _, _, _, _, _, _, _, _, _, _, _, _, _, _, rfl, _⟩ := h; rfl)
      | (obtain ⟨_, _, _, _, _, _, _, _, _, _, _, _, _, _, _, _, _, _, rfl, _⟩ := h; rfl)
      | (obtain ⟨_, _, _, _, _, _, _, _, _, _, _, _, _, _, _, _, _, _, _, rfl, _⟩ := h; rfl)
  · obtain ⟨m, b, e, t, src, s, cs, ds, rfl, hM, hS, hs, hl, hn, hn2, hb, ht, k⟩ := h
    obtain ⟨dx, l, hm, ld⟩ := id hM
    have cl_Memory := T.cl_Memory
    have na_Memory_pairs := T.na_Memory_pairs
    have na_Memory_wide := T.na_Memory_wide
    have cl_Ties := T.cl_Ties
    have na_Ties_near := T.na_Ties_near
    have na_Ties_own_ever := T.na_Ties_own_ever
    have na_Ties_own_living := T.na_Ties_own_living
    have cl_Store := T.cl_Store
    have na_Store_kept_by_world := T.na_Store_kept_by_world
    have na_Store_own_size := T.na_Store_own_size
    have na_Store_own_ties := T.na_Store_own_ties
    refine ⟨_, (pss_cons (ps_expr (d1 (ok_want_stretch T) (hr.mono (by decide)) (by rfl) T.m_want_stretch T.F_want_stretch.kp T.b_want_stretch passL (pa_cons (pv 1) (pa_cons (pv 2) (pa_cons (k_fld (K := K) rfl (pv 0) rfl) pa_nil)))))
      (pss_cons (ps_if (pt_not (pt_val (d1 (ok_is_whole T) (hr.mono (by decide)) (by rfl) T.m_is_whole T.F_is_whole.kp T.b_is_whole passL (pa_cons (pv 3) (pa_cons pe_int (pa_cons (pe_op op_sub (k_fld (K := K) rfl (pv 0) rfl) (pe_op op_sub (pv 2) (pv 1))) pa_nil)))))) (pss_one ps_never) pss_nil)
      (pss_cons (ps_set (i := 5) sc_Memory_bring.nd rfl (Or.inl rfl) (pe_ifExp (pt_cmpR op_isN1 (pv 4) pe_non (nomark _)) (pv 0) (pv 4)))
      (pss_cons (ps_if (pt_cmpR (k_ne (K := K) rfl hr.r.units) (dm0 T.cl_Memory T.me_Memory_size (ok_Memory_size T) (hr.mono (by decide)) T.b_Memory_size passL (pv 5)) (k_fld (K := K) rfl (pv 0) rfl) (nomark _)) (pss_one ps_never) pss_nil)
      (pss_one (ps_expr (dm T.cl_Memory T.me_Memory_lay (ok_Memory_lay T) (hr.mono (by decide)) T.b_Memory_lay passL (pv 0) (pa_cons (pv 3) (pa_cons (d1 (ok_cut_out T) (hr.mono (by decide)) (by rfl) T.m_cut_out T.F_cut_out.kp T.b_cut_out passL (pa_cons (dm0 T.cl_Memory T.me_Memory_runs (ok_Memory_runs T) (hr.mono (by decide)) T.b_Memory_runs passL (pv 5)) (pa_cons (pv 1) (pa_cons (pv 2) pa_nil)))) (pa_cons (pe_op op_sub (pe_op (k_add (K := K) rfl) (pv 3) (pv 2)) (pv 1)) pa_nil)))))))))), ?_⟩
    dsimp only [cxOf, st_1, st_2, st_3, st_4, st_5, st_6, List.length_cons, List.length_nil, List.replicate_succ, List.replicate_zero, Nat.reduceAdd, Nat.reduceSub]
    walk_at "gs"
    refine ⟨b, e, cs.length, rfl, by omega, ?_⟩
    walk_at "gs"
    refine ⟨t, 0, cs.length - (e - b), rfl, ?_⟩
    walk_at "gs"
    refine i_decN (fun d => absurd (by omega) d) (fun _ => ?_)
    walk_at "gs"
    rcases hs with ⟨e1, e2, e3⟩ | e1
    · subst e1
      subst e2
      subst e3
      walk_at "gs"
      refine ⟨_, _, rfl, hS, ?_⟩
      walk_at "gs"
      refine i_decN (fun d => absurd (by omega) d) (fun _ => ?_)
      walk_at "gs"
      refine ⟨_, _, rfl, hS, fun l1 H1 hl1 k1 ld1 => ?_⟩
      walk_at "gs"
      refine ⟨l1, b, e, _, rfl, ld1.dp, by omega, fun l2 H2 hl2 k2 ld2 => ?_⟩
      walk_at "gs"
      refine ⟨m, l2, t, t + e - b, cs, _, rfl, mem_kp0 (mem_kp0 hM k1) k2, ld2, hn, Nat.le_trans (cut_len _ _ _) hn2, by omega, ?_, fun H' k3 hM' of => ?_⟩
      · rw [cut_rle, List.length_take, List.length_drop]
        omega
      · walk_at "gs"
        rw [cut_rle] at hM'
        exact k H' (by walk_at "g_kp") hM' (fun b hb => of b (tr_kp k2 (tr_kp k1 hb)))
    · subst e1
      obtain ⟨dx2, l2, hms, lds⟩ := id hS
      walk_at "gs"
      refine ⟨_, _, rfl, hS, ?_⟩
      walk_at "gs"
      refine i_decN (fun d => absurd (by omega) d) (fun _ => ?_)
      walk_at "gs"
      refine ⟨_, _, rfl, hS, fun l1 H1 hl1 k1 ld1 => ?_⟩
      walk_at "gs"
      refine ⟨l1, b, e, _, rfl, ld1.dp, by omega, fun l2 H2 hl2 k2 ld2 => ?_⟩
      walk_at "gs"
      refine ⟨m, l2, t, t + e - b, cs, _, rfl, mem_kp0 (mem_kp0 hM k1) k2, ld2, hn, Nat.le_trans (cut_len _ _ _) hn2, by omega, ?_, fun H' k3 hM' of => ?_⟩
      · rw [cut_rle, List.length_take, List.length_drop]
        omega
      · walk_at "gs"
        rw [cut_rle] at hM'
        exact k H' (by walk_at "g_kp") hM' (fun b hb => of b (tr_kp k2 (tr_kp k1 hb)))

/-! ### data of any kind -/
section
variable {K : PySem.W.Frag} {H H' : Hp} {ws : List Addr}
mutual
/-- data none of whose lists is in ws -/
inductive Dx (K : PySem.W.Frag) (H : Hp) (ws : List Addr) : V → PyData → Prop
  | non : Dx K H ws .non .none
  | bl (b : Bool) : Dx K H ws (.bl b) (.bool b)
  | int (i : Int) : Dx K H ws (.int i) (.int i)
  | str (x : Str) : Dx K H ws (.str x) (.str x)
  | lst {a : Addr} {xs : List V} {ds : List PyData} : a ∉ ws → H a = some (.lst xs) → DxAll K H ws xs ds → Dx K H ws (.ref a) (.list ds)
  | tup {a : Addr} {xs : List V} {ds : List PyData} : SqT K H a xs → DxAll K H ws xs ds → Dx K H ws (.ref a) (.tuple ds)
inductive DxAll (K : PySem.W.Frag) (H : Hp) (ws : List Addr) : List V → List PyData → Prop
  | nil : DxAll K H ws [] []
  | cons {v : V} {vs : List V} {d : PyData} {ds : List PyData} : Dx K H ws v d → DxAll K H ws vs ds → DxAll K H ws (v :: vs) (d :: ds)
end
mutual
theorem Dx.dp : ∀ (d : PyData) (v : V), Dx K H ws v d → Dp K H v d
  | .none, _, h => by cases h; exact .non
  | .bool b, _, h => by cases h; exact .bl b
  | .int i, _, h => by cases h; exact .int i
  | .str x, _, h => by cases h; exact .str x
  | .list ds, _, h => by
    cases h with
    | lst _ hs ha => exact .lst (SqL.of hs) (DxAll.dp ds _ ha)
  | .tuple ds, _, h => by
    cases h with
    | tup hs ha => exact .tup hs (DxAll.dp ds _ ha)
  | .dict _, _, h => by cases h
theorem DxAll.dp : ∀ (ds : List PyData) (vs : List V), DxAll K H ws vs ds → DpAll K H vs ds
  | [], _, h => by cases h; exact .nil
  | d :: ds, _, h => by
    cases h with
    | cons h1 h2 => exact .cons (Dx.dp d _ h1) (DxAll.dp ds _ h2)
end
mutual
theorem Dx.kp (k : Kp ws H H') : ∀ (d : PyData) (v : V), Dx K H ws v d → Dx K H' ws v d
  | .none, _, h => by cases h; exact .non
  | .bool b, _, h => by cases h; exact .bl b
  | .int i, _, h => by cases h; exact .int i
  | .str x, _, h => by cases h; exact .str x
  | .list ds, _, h => by
    cases h with
    | lst n hs ha => exact .lst n (k.at_ _ _ hs n) (DxAll.kp k ds _ ha)
  | .tuple ds, _, h => by
    cases h with
    | tup hs ha => exact .tup (k.seqT hs) (DxAll.kp k ds _ ha)
  | .dict _, _, h => by cases h
theorem DxAll.kp (k : Kp ws H H') : ∀ (ds : List PyData) (vs : List V), DxAll K H ws vs ds → DxAll K H' ws vs ds
  | [], _, h => by cases h; exact .nil
  | d :: ds, _, h => by
    cases h with
    | cons h1 h2 => exact .cons (Dx.kp k d _ h1) (DxAll.kp k ds _ h2)
end
mutual
theorem dx_imm : ∀ (d : PyData) (v : V), imm d = true → Dp K H v d → Dx K H ws v d
  | .none, _, _, h => by cases h; exact .non
  | .bool b, _, _, h => by cases h; exact .bl b
  | .int i, _, _, h => by cases h; exact .int i
  | .str x, _, _, h => by cases h; exact .str x
  | .list ds, _, e, h => by simp [imm] at e
  | .tuple ds, _, e, h => by
    cases h with
    | tup hs ha => exact .tup hs (dxs_imm ds _ (by simpa [imm] using e) ha)
  | .dict _, _, _, h => by cases h
theorem dxs_imm : ∀ (ds : List PyData) (vs : List V), imms ds = true → DpAll K H vs ds → DxAll K H ws vs ds
  | [], _, _, h => by cases h; exact .nil
  | d :: ds, _, e, h => by
    cases h with
    | cons h1 h2 =>
      simp only [imms, Bool.and_eq_true] at e
      exact .cons (dx_imm d _ e.1 h1) (dxs_imm ds _ e.2 h2)
end
mutual
theorem Dx.wider {us : List Addr} (hu : ∀ b ∈ us, ∀ xs, H b ≠ some (.lst xs)) : ∀ (d : PyData) (v : V), Dx K H ws v d → Dx K H (us ++ ws) v d
  | .none, _, h => by cases h; exact .non
  | .bool b, _, h => by cases h; exact .bl b
  | .int i, _, h => by cases h; exact .int i
  | .str x, _, h => by cases h; exact .str x
  | .list ds, _, h => by
    cases h with
    | lst n hs ha => exact .lst (fun z => (List.mem_append.mp z).elim (fun z => hu _ z _ hs) n) hs (DxAll.wider hu ds _ ha)
  | .tuple ds, _, h => by
    cases h with
    | tup hs ha => exact .tup hs (DxAll.wider hu ds _ ha)
  | .dict _, _, h => by cases h
theorem DxAll.wider {us : List Addr} (hu : ∀ b ∈ us, ∀ xs, H b ≠ some (.lst xs)) : ∀ (ds : List PyData) (vs : List V), DxAll K H ws vs ds → DxAll K H (us ++ ws) vs ds
  | [], _, h => by cases h; exact .nil
  | d :: ds, _, h => by
    cases h with
    | cons h1 h2 => exact .cons (Dx.wider hu d _ h1) (DxAll.wider hu ds _ h2)
end
theorem dxa_len : ∀ {ds : List PyData} {vs : List V}, DxAll K H ws vs ds → vs.length = ds.length
  | [], _, h => by cases h; rfl
  | d :: ds, _, h => by
    cases h with
    | cons h1 h2 => rw [List.length_cons, List.length_cons, dxa_len h2]
theorem dxa_get : ∀ {ds : List PyData} {vs : List V} {i : Nat} {v : V}, DxAll K H ws vs ds → vs[i]? = some v → ∃ d, ds[i]? = some d ∧ Dx K H ws v d
  | [], _, _, _, h, e => by
    cases h
    simp at e
  | d :: ds, _, 0, _, h, e => by
    cases h with
    | cons h1 h2 =>
      cases e
      exact ⟨d, rfl, h1⟩
  | d :: ds, _, i + 1, _, h, e => by
    cases h with
    | cons h1 h2 =>
      obtain ⟨q, e1, e2⟩ := dxa_get (i := i) h2 (by simpa using e)
      exact ⟨q, by simpa using e1, e2⟩
theorem dxa_app : ∀ {ds es : List PyData} {vs us : List V}, DxAll K H ws vs ds → DxAll K H ws us es → DxAll K H ws (vs ++ us) (ds ++ es)
  | [], _, _, _, h, h' => by
    cases h
    exact h'
  | d :: ds, _, _, _, h, h' => by
    cases h with
    | cons h1 h2 => exact .cons h1 (dxa_app h2 h')
theorem dxa_set : ∀ {ds : List PyData} {vs : List V} {i : Nat} {v : V} {d : PyData}, DxAll K H ws vs ds → Dx K H ws v d → DxAll K H ws (vs.set i v) (ds.set i d)
  | [], _, _, _, _, h, _ => by
    cases h
    exact .nil
  | _ :: ds, _, 0, _, _, h, h' => by
    cases h with
    | cons h1 h2 => exact .cons h' h2
  | _ :: ds, _, i + 1, _, _, h, h' => by
    cases h with
    | cons h1 h2 => exact .cons h1 (dxa_set h2 h')
theorem dxa_take : ∀ {ds : List PyData} {vs : List V} (i : Nat), DxAll K H ws vs ds → DxAll K H ws (vs.take i) (ds.take i)
  | [], _, _, h => by
    cases h
    rw [List.take_nil, List.take_nil]
    exact .nil
  | _ :: ds, _, 0, h => by
    rw [List.take_zero, List.take_zero]
    exact .nil
  | _ :: ds, _, i + 1, h => by
    cases h with
    | cons h1 h2 => exact .cons h1 (dxa_take i h2)
theorem dxa_drop : ∀ {ds : List PyData} {vs : List V} (i : Nat), DxAll K H ws vs ds → DxAll K H ws (vs.drop i) (ds.drop i)
  | [], _, _, h => by
    cases h
    rw [List.drop_nil, List.drop_nil]
    exact .nil
  | _ :: ds, _, 0, h => h
  | _ :: ds, _, i + 1, h => by
    cases h with
    | cons h1 h2 => exact dxa_drop i h2
/-- data, or an empty dict -/
def Tg (K : PySem.W.Frag) (H : Hp) (ws : List Addr) (v : V) (d : PyData) : Prop := Dx K H ws v d ∨ (d = .dict [] ∧ ∃ a, v = .ref a ∧ H a = some (.dK []) ∧ a ∉ ws)
theorem Tg.kp {v : V} {d : PyData} (t : Tg K H ws v d) (k : Kp ws H H') : Tg K H' ws v d := by
  rcases t with h | ⟨rfl, a, rfl, h, n⟩
  · exact .inl (h.kp k _ _)
  · exact .inr ⟨rfl, a, rfl, k.at_ _ _ h n, n⟩
theorem Tg.ty {v : V} {d : PyData} (t : Tg K H ws v d) : TyX K H v (.type (dty d)) := by
  rcases t with h | ⟨rfl, a, rfl, h, n⟩
  · exact dp_ty (h.dp _ _)
  · exact .base (.dK h)
theorem i_isT {T : String} {b : Bool} {Q : VK} {v : V} {d : PyData} (t : Tg K H ws v d) (e : kitB (dty d) T = some b) (h : Q (.bl b) H) :
    rIsi K [v, .ty T] H Q := ⟨v, .ty T, _, _, b, rfl, .ty T, t.ty, L2.kit_ty e, h⟩
def kInt : PyData → Bool
  | .int _ => true
  | .bool _ => true
  | _ => false
def kBool : PyData → Bool
  | .bool _ => true
  | _ => false
def kTup : PyData → Bool
  | .tuple _ => true
  | _ => false
def kLst : PyData → Bool
  | .list _ => true
  | _ => false
theorem kit_int (d : PyData) : kitB (dty d) "int" = some (kInt d) := by cases d <;> (simp only [dty, kInt]; decide +kernel)
theorem kit_bool (d : PyData) : kitB (dty d) "bool" = some (kBool d) := by cases d <;> (simp only [dty, kBool]; decide +kernel)
theorem kit_tup (d : PyData) : kitB (dty d) "tuple" = some (kTup d) := by cases d <;> (simp only [dty, kTup]; decide +kernel)
theorem kit_lst (d : PyData) : kitB (dty d) "list" = some (kLst d) := by cases d <;> (simp only [dty, kLst]; decide +kernel)
theorem i_bool2 {b : Bool} {A B : Prop} (h1 : b = true → A) (h2 : b = false → B) : if b = true then A else B := by
  cases b
  · exact iteF (h2 rfl)
  · exact iteT (h1 rfl)
def isI : PyData → Bool
  | .int _ => true
  | _ => false
def whD (d : PyData) (a b : Int) : Bool :=
  match d with
  | .int n => decide (a ≤ n ∧ n ≤ b)
  | _ => false
theorem isI_eq (d : PyData) : isI d = (kInt d && !kBool d) := by cases d <;> rfl
theorem isI_int {d : PyData} (h : isI d = true) : ∃ n, d = .int n := by
  cases d with
  | int n => exact ⟨n, rfl⟩
  | _ => cases h
theorem whD_no {d : PyData} {a b : Int} (h : isI d = false) : whD d a b = false := by
  cases d with
  | int n => cases h
  | _ => rfl
theorem whD_int {d : PyData} {a b : Int} (h : whD d a b = true) : ∃ n, d = .int n ∧ a ≤ n ∧ n ≤ b := by
  cases d with
  | int n => exact ⟨n, rfl, of_decide_eq_true h⟩
  | _ => cases h
end

/-! ### numbers, asked of anything -/
def Any (K : PySem.W.Frag) (H : Hp) (v : V) (d : PyData) : Prop := TyX K H v (.type (dty d)) ∧ ∀ n, d = .int n → v = .int n
theorem Any.dp {K : PySem.W.Frag} {H : Hp} {v : V} {d : PyData} (h : Dp K H v d) : Any K H v d := ⟨dp_ty h, fun n e => by
  subst e
  cases h
  rfl⟩
theorem Any.int {K : PySem.W.Frag} {H : Hp} (n : Int) : Any K H (.int n) (.int n) := .dp (.int n)
theorem i_isA {K : PySem.W.Frag} {H : Hp} {T : String} {b : Bool} {Q : VK} {v : V} {d : PyData} (t : Any K H v d) (e : kitB (dty d) T = some b) (h : Q (.bl b) H) :
    rIsi K [v, .ty T] H Q := ⟨v, .ty T, _, _, b, rfl, .ty T, t.1, L2.kit_ty e, h⟩

/-! ### ties -/
def kA (p : Int × Addr) : Key × V := (.inl p.1, .ref p.2)
def tfs (e : Int) (lv nd : Addr) : List (Str × V) := [("own_ever", .int e), ("own_living", .ref lv), ("near", .ref nd)]
structure TiX (C : Addr) (H : Hp) (t lv nd dx : Addr) (rep : List (Int × Addr)) (ever : Int) (liv : List Int) (nb : Int → List Int) : Prop where
  ht : H t = some (.ins C dx (tfs ever lv nd))
  hl : H lv = some (.lst (liv.map V.int))
  hn : H nd = some (.dK (rep.map kA))
  hr : ∀ p ∈ rep, H p.2 = some (.lst ((nb p.1).map V.int))
  ad : (t :: lv :: nd :: rep.map (·.2)).Nodup
  nk : (rep.map (·.1)).Nodup
/-- t holds ties; ps: what is its own -/
def TiesAt (C : Addr) (H : Hp) (t : Addr) (ps : List Addr) (ever : Int) (liv ks : List Int) (nb : Int → List Int) : Prop :=
  ∃ lv nd dx rep, TiX C H t lv nd dx rep ever liv nb ∧ ps = t :: lv :: nd :: rep.map (·.2) ∧ ks = rep.map (·.1)
def Grow (H : Hp) (ps ps' : List Addr) : Prop := ∀ b ∈ ps', b ∈ ps ∨ Fr H b
section
variable {C : Addr} {H H' : Hp} {t lv nd dx : Addr} {rep : List (Int × Addr)} {ever : Int} {liv ks : List Int} {nb : Int → List Int} {ws ps ps' : List Addr}
theorem Grow.refl : Grow H ps ps := fun b h => .inl h
theorem Grow.nin {p : Addr} (g : Grow H ps ps') (t : Tr H p) (n : p ∉ ps) : p ∉ ps' := fun z => by
  rcases g p z with h | h
  · exact n h
  · obtain ⟨o, e⟩ := t.ex
    rw [h.e] at e
    cases e
theorem Grow.trans {ps2 : List Addr} (g : Grow H ps ps') (k : Kp ps H H') (g2 : Grow H' ps' ps2) : Grow H ps ps2 := fun b h => by
  rcases g2 b h with z | z
  · exact g b z
  · refine .inr ⟨?_⟩
    cases q : H b with
    | none => rfl
    | some u =>
      obtain ⟨v, e⟩ := k.dom b u q
      rw [z.e] at e
      cases e
/-- a change to what is its own and was not there before -/
theorem Kp.grow {H2 : Hp} (k : Kp ps H H') (g : Grow H ps ps') (k2 : Kp ps' H' H2) : Kp ps H H2 :=
  (Kp.trans (k.mono (us := ps ++ ps') fun b h => List.mem_append.mpr (.inl h)) (k2.mono fun b h => List.mem_append.mpr (.inr h))).dropAll fun b h => by
    rcases List.mem_append.mp h with h | h
    · exact .inl h
    · exact g b h
theorem TiX.known (x : TiX C H t lv nd dx rep ever liv nb) : ∀ b ∈ t :: lv :: nd :: rep.map (·.2), ∃ u, H b = some u := fun b hb => by
  rcases List.mem_cons.mp hb with rfl | hb
  · exact ⟨_, x.ht⟩
  rcases List.mem_cons.mp hb with rfl | hb
  · exact ⟨_, x.hl⟩
  rcases List.mem_cons.mp hb with rfl | hb
  · exact ⟨_, x.hn⟩
  obtain ⟨p, hp, rfl⟩ := List.mem_map.mp hb
  exact ⟨_, x.hr p hp⟩
theorem TiesAt.known (x : TiesAt C H t ps ever liv ks nb) : ∀ b ∈ ps, ∃ u, H b = some u := by
  obtain ⟨lv, nd, dx, rep, h, rfl, rfl⟩ := x
  exact h.known
theorem TiX.kp (x : TiX C H t lv nd dx rep ever liv nb) (k : Kp ws H H') (n : ∀ b ∈ t :: lv :: nd :: rep.map (·.2), b ∉ ws) : TiX C H' t lv nd dx rep ever liv nb :=
  ⟨k.at_ _ _ x.ht (n _ (by simp)), k.at_ _ _ x.hl (n _ (by simp)), k.at_ _ _ x.hn (n _ (by simp)), fun p hp => k.at_ _ _ (x.hr p hp) (n _ (by simp only [List.mem_cons]; exact .inr (.inr (.inr (List.mem_map.mpr ⟨p, hp, rfl⟩))))), x.ad, x.nk⟩
theorem TiesAt.kp (x : TiesAt C H t ps ever liv ks nb) (k : Kp ws H H') (n : ∀ b ∈ ps, b ∉ ws) : TiesAt C H' t ps ever liv ks nb := by
  obtain ⟨lv, nd, dx, rep, h, rfl, rfl⟩ := x
  exact ⟨lv, nd, dx, rep, h.kp k n, rfl, rfl⟩
theorem TiesAt.kp0 (x : TiesAt C H t ps ever liv ks nb) (k : Kp [] H H') : TiesAt C H' t ps ever liv ks nb := x.kp k fun _ _ z => nomatch z
/-- what is not its own stays apart from it -/
theorem TiesAt.fr {p : Addr} (x : TiesAt C H t ps ever liv ks nb) (f : Fr H p) : p ∉ ps := fun z => by
  obtain ⟨u, e⟩ := x.known p z
  rw [f.e] at e
  cases e
theorem TiesAt.apart (x : TiesAt C H t ps ever liv ks nb) {p : Addr} (n : p ∉ ps) : ∀ b ∈ ps, b ∉ [p] := fun b hb z => by
  rw [List.mem_singleton.mp z] at hb
  exact n hb
theorem val_rep {w : Int} {a : Addr} : ∀ {rep : List (Int × Addr)}, (rep.map (·.1)).Nodup → (w, a) ∈ rep → valV (rep.map kA) (.inl w) = some (.ref a)
  | p :: rep, n, h => by
    rw [List.map_cons, List.nodup_cons] at n
    rcases List.mem_cons.mp h with e | h
    · rw [← e, List.map_cons]
      exact valV_pos rfl
    · rw [List.map_cons, valV_neg (fun z => ?_)]
      · exact val_rep n.2 h
      · have z : (Sum.inl p.1 : Key) = .inl w := z
        injection z with z
        exact n.1 (by rw [z]; exact List.mem_map.mpr ⟨_, h, rfl⟩)
theorem val_none {w : Int} : ∀ {rep : List (Int × Addr)}, w ∉ rep.map (·.1) → valV (rep.map kA) (.inl w) = none
  | [], _ => rfl
  | p :: rep, h => by
    rw [List.map_cons, List.mem_cons, not_or] at h
    rw [List.map_cons, valV_neg (fun z => ?_)]
    · exact val_none h.2
    · have z : (Sum.inl p.1 : Key) = .inl w := z
      injection z with z
      exact h.1 z.symm
theorem val_in {w : Int} {rep : List (Int × Addr)} (n : (rep.map (·.1)).Nodup) : (valV (rep.map kA) (.inl w)).isSome = decide (w ∈ rep.map (·.1)) := by
  by_cases c : w ∈ rep.map (·.1)
  · obtain ⟨p, hp, rfl⟩ := List.mem_map.mp c
    rw [val_rep (w := p.1) (a := p.2) n hp, decide_eq_true c]
    rfl
  · rw [val_none c, decide_eq_false c]
    rfl
theorem put_new {w : Int} {a : Addr} {rep : List (Int × Addr)} (h : w ∉ rep.map (·.1)) : putK (rep.map kA) (.inl w) (.ref a) = (rep ++ [(w, a)]).map kA := by
  rw [putK_new _ (val_none h), List.map_append]
  rfl
theorem drop_rep {w : Int} : ∀ (rep : List (Int × Addr)), dropK (rep.map kA) (.inl w) = (rep.filter fun p => decide (p.1 ≠ w)).map kA
  | [] => rfl
  | p :: rep => by
    have ih := drop_rep (w := w) rep
    unfold dropK at ih ⊢
    rw [List.map_cons, List.filter_cons, List.filter_cons, ih]
    by_cases c : p.1 = w
    · have c' : (kA p).1 = .inl w := by show (Sum.inl p.1 : Key) = _; rw [c]
      rw [if_neg (by simpa using c'), if_neg (by simpa using c)]
    · have c' : ¬ (kA p).1 = .inl w := fun z => by
        have z : (Sum.inl p.1 : Key) = .inl w := z
        injection z with z
        exact c z
      rw [if_pos (by simpa using c'), if_pos (by simpa using c)]
      rfl
theorem keys_drop {w : Int} {rep : List (Int × Addr)} (n : (rep.map (·.1)).Nodup) : (rep.filter fun p => decide (p.1 ≠ w)).map (·.1) = (rep.map (·.1)).erase w := by
  rw [n.erase_eq_filter, List.filter_map]
  congr 1
  refine List.filter_congr fun p _ => ?_
  show decide (p.1 ≠ w) = (p.1 != w)
  by_cases c : p.1 = w <;> simp [c]
end
theorem TiesAt.ins {C : Addr} {H : Hp} {t : Addr} {ps : List Addr} {ever : Int} {liv ks : List Int} {nb : Int → List Int} (x : TiesAt C H t ps ever liv ks nb) : ∃ dx lv nd, H t = some (.ins C dx (tfs ever lv nd)) := by
  obtain ⟨lv, nd, dx, rep, h, rfl, rfl⟩ := x
  exact ⟨_, _, _, h.ht⟩
def sp_tinit (C : Addr) : Sp := fun vs H Q _ => ∃ (t dx : Addr), vs = [.ref t] ∧ H t = some (.ins C dx []) ∧
  ∀ ps H', Kp [t] H H' → Grow H [t] ps → TiesAt C H' t ps 1 [0] [0] (fun _ => []) → Q .non H'
def Disp1 (p : Addr) (n : Int) (Q : VK) (v : V) (H2 : Hp) : Prop := H2 p = some (.dK []) ∧ ∃ kvs : List (Key × V), [(V.int n, v)] = kvs.map (fun kv => (kV kv.1, kv.2)) ∧ kvs.length ≤ 15 ∧ Q (.ref p) (upd H2 p (.dK (mergeK [] kvs)))
theorem i_disp1 {σ : L2.St} {H : Hp} {Q : VK} {n : Int} {te : TE} (q : ∀ p, Fr H p → te σ (upd H p (.dK [])) fun v H2 => Disp1 p n Q v H2) : tDisp [(tC (.int n), te)] σ H Q := fun p hp => q p ⟨hp⟩
theorem i_disp1e {H2 : Hp} {Q : VK} {n : Int} {p : Addr} {v : V} (h : H2 p = some (.dK [])) (q : Q (.ref p) (upd H2 p (.dK [(.inl n, v)]))) : Disp1 p n Q v H2 := ⟨h, [(.inl n, v)], rfl, by rw [List.length_singleton]; decide, q⟩
theorem sc_Ties_init : FnScope ["self"] ["self"] (defScope s_Ties_init) :=
  ⟨rfl, rfl, rfl, by decide +kernel, rfl, by decide +kernel, by decide +kernel⟩
theorem ok_Ties_init {P : Program} {w : World} {K : PySem.W.Frag} {mg : Str → Option Value} {base : Heap} (T : Txt K mg) :
    FnG P w K mg base 1 T.a_Ties_init T.d_Ties_init ["self"] (sp_tinit T.c_Ties) := by
  refine okD T.F_Ties_init sc_Ties_init (fun vs H Q E h => ?_) (fun cdv A outer s H vs Q E hr h => ?_)
  · first
      | (obtain ⟨_, rfl, _⟩ := h; rfl)
      | (obtain ⟨_, _, rfl, _⟩ := h; rfl)
      | (obtain ⟨_, _, _, rfl, _⟩ := h; rfl)
      | (obtain ⟨_, _, _, _, rfl, _⟩ := h; rfl)
      | (obtain ⟨_, _, _, _, _, rfl, _⟩ := h; rfl)
      | (obtain ⟨_, _, _, _, _, _, rfl, _⟩ := h; rfl)
      | (obtain ⟨_, _, _, _, _, _, _, rfl, _⟩ := h; rfl)
      | (obtain ⟨_, _, _, _, _, _, _, _, rfl, _⟩ := h; rfl)
      | (obtain ⟨_, _, _, _, _, _, _, _, _, rfl, _⟩ := h; rfl)
      | (obtain ⟨_, _, _, _, _, _, _, _, _, _, rfl, _⟩ := h; rfl)
      | (obtain ⟨_, _, _, _, _, _, _, _, _, _, _, rfl, _⟩ := h; rfl)
      | (obtain ⟨_, _, _, _, _, _, _, _, _, _, _, _, rfl, _⟩ := h; rfl)
      | (obtain ⟨_, _, _, _, _, _, _, _, _, _, _, _, _, rfl, _⟩ := h; rfl)
      | (obtain ⟨_, _, _, _, _, _, _, _, _, _, _, _, _, _, rfl, _⟩ := h; rfl)
      | (obtain ⟨_, _, _, _, _, _, _, _, _, _, _, _, _, _, _, rfl, _⟩ := h; rfl)
      | (obtain ⟨_, _, _, _, _, _, _, _, _, _, _, _, _, _, _, _, rfl, _⟩ := h; rfl)
      | (obtain ⟨_, _, _, _, _, _, _, _, _, _, _, _, _, _, _, _, _, rfl, _⟩ := h; rfl)
      | (obtain ⟨_, _, _, _, _, _, _, _, _, _, _, _, _, _, _, _, _, _, rfl, _⟩ := h; rfl)
      | (obtain ⟨_, _, _, _, _, _, _, _, _, _, _, _, _, _, _, _, _, _, _, rfl, _⟩ := h; rfl)
  · obtain ⟨t, dx, rfl, ht, k⟩ := h
    have cl_Memory := T.cl_Memory
    have na_Memory_pairs := T.na_Memory_pairs
    have na_Memory_wide := T.na_Memory_wide
    have cl_Ties := T.cl_Ties
    have na_Ties_near := T.na_Ties_near
    have na_Ties_own_ever := T.na_Ties_own_ever
    have na_Ties_own_living := T.na_Ties_own_living
    have cl_Store := T.cl_Store
    have na_Store_kept_by_world := T.na_Store_kept_by_world
    have na_Store_own_size := T.na_Store_own_size
    have na_Store_own_ties := T.na_Store_own_ties
    refine ⟨_, (pss_cons (k_sfld (K := K) rfl (pv 0) pe_int rfl)
      (pss_cons (k_sfld (K := K) rfl (pv 0) (pe_lst (pa_cons pe_int pa_nil)) rfl)
      (pss_one (k_sfld (K := K) rfl (pv 0) (pe_disp (pps_cons pe_int (pe_lst pa_nil) pps_nil) (by rfl) (by rfl) (fun z => by cases z) (by decide)) rfl)))), ?_⟩
    dsimp only [cxOf, st_1, st_2, st_3, st_4, st_5, st_6, List.length_cons, List.length_nil, List.replicate_succ, List.replicate_zero, Nat.reduceAdd, Nat.reduceSub]
    walk_at "gs"
    refine i_new fun l fl => ?_
    have ntl : t ≠ l := fr_ne upd_same fl
    walk_at "gs"
    refine i_disp1 fun d fd => ?_
    have ntd : t ≠ d := fr_ne upd_same fd
    have nld : l ≠ d := fr_ne (by rw [upd_ne (Ne.symm ntl)]; exact upd_same) fd
    walk_at "gs"
    refine i_new fun m fm => ?_
    have ntm : t ≠ m := fr_ne (by walk_at "g_hp") fm
    have nlm : l ≠ m := fr_ne (by walk_at "g_hp") fm
    have ndm : d ≠ m := fr_ne upd_same fm
    walk_at "gs"
    refine i_disp1e (by walk_at "g_hp") ?_
    walk_at "gs"
    have ntl' := Ne.symm ntl
    have nlm' := Ne.symm nlm
    refine k [t, l, d, m] _ (by walk_at "g_kp") (fun b hb => ?_) ⟨l, d, dx, [(0, m)], ⟨upd_same, show _ = some (HO.lst [V.int 0]) by walk_at "g_hp", show _ = some (HO.dK [(Sum.inl 0, V.ref m)]) by walk_at "g_hp", fun p hp => ?_, ?_, by simp⟩, rfl, rfl⟩
    · simp only [List.mem_cons, List.not_mem_nil, or_false] at hb ⊢
      rcases hb with rfl | rfl | rfl | rfl
      · exact .inl rfl
      · exact .inr (by walk_at "g_fr")
      · exact .inr (by walk_at "g_fr")
      · exact .inr (by walk_at "g_fr")
    · rw [List.mem_singleton.mp hp]
      show _ = some (HO.lst [])
      walk_at "g_hp"
    · simp only [List.map_cons, List.map_nil, List.nodup_cons, List.mem_cons, List.not_mem_nil, or_false, not_or, not_false_iff, List.nodup_nil, and_true]
      exact ⟨⟨ntl, ntd, ntm⟩, ⟨nld, nlm⟩, ndm⟩
def sp_tever (C : Addr) : Sp := fun vs H Q _ => ∃ (t : Addr) (ps : List Addr) (ever : Int) (liv ks : List Int) (nb : Int → List Int), vs = [.ref t] ∧ TiesAt C H t ps ever liv ks nb ∧ Q (.int ever) H
theorem sc_Ties_ever : FnScope ["self"] ["self"] (defScope s_Ties_ever) :=
  ⟨rfl, rfl, rfl, by decide +kernel, rfl, by decide +kernel, by decide +kernel⟩
theorem ok_Ties_ever {P : Program} {w : World} {K : PySem.W.Frag} {mg : Str → Option Value} {base : Heap} (T : Txt K mg) :
    FnG P w K mg base 1 T.a_Ties_ever T.d_Ties_ever ["self"] (sp_tever T.c_Ties) := by
  refine okD T.F_Ties_ever sc_Ties_ever (fun vs H Q E h => ?_) (fun cdv A outer s H vs Q E hr h => ?_)
  · first
      | (obtain ⟨_, rfl, _⟩ := h; rfl)
      | (obtain ⟨_, _, rfl, _⟩ := h; rfl)
      | (obtain ⟨_, _, _, rfl, _⟩ := h; rfl)
      | (obtain ⟨_, _, _, _, rfl, _⟩ := h; rfl)
      | (obtain ⟨_, _, _, _, _, rfl, _⟩ := h; rfl)
      | (obtain ⟨_, _, _, _, _, _, rfl, _⟩ := h; rfl)
      | (obtain ⟨_, _, _, _, _, _, _, rfl, _⟩ := h; rfl)
      | (obtain ⟨_, _, _, _, _, _, _, _, rfl, _⟩ := h; rfl)
      | (obtain ⟨_, _, _, _, _, _, _, _, _, rfl, _⟩ := h; rfl)
      | (obtain ⟨_, _, _, _, _, _, _, _, _, _, rfl, _⟩ := h; rfl)
      | (obtain ⟨_, _, _, _, _, _, _, _, _, _, _, rfl, _⟩ := h; rfl)
      | (obtain ⟨_, _, _, _, _, _, _, _, _, _, _, _, rfl, _⟩ := h; rfl)
      | (obtain ⟨_, _, _, _, _, _, _, _, _, _, _, _, _, rfl, _⟩ := h; rfl)
      | (obtain ⟨_, _, _, _, _, _, _, _, _, _, _, _, _, _, rfl, _⟩ := h; rfl)
      | (obtain ⟨_, _, _, _, _, _, _, _, _, _, _, _, _, _, _, rfl, _⟩ := h; rfl)
      | (obtain ⟨_, _, _, _, _, _, _, _, _, _, _, _, _, _, _, _, rfl, _⟩ := h; rfl)
      | (obtain ⟨_, _, _, _, _, _, _, _, _, _, _, _, _, _, _, _, _, rfl, _⟩ := h; rfl)
      | (obtain ⟨_, _, _, _, _, _, _, _, _, _, _, _, _, _, _, _, _, _, rfl, _⟩ := h; rfl)
      | (obtain ⟨_, _, _, _, _, _, _, _, _, _, _, _, _, _, _, _, _, _, _, rfl, _⟩ := h; rfl)
  · obtain ⟨t, ps, ever, liv, ks, nb, rfl, ⟨lv, nd, dx, rep, x, rfl, rfl⟩, k⟩ := h
    obtain ⟨ht, hl, hn, hr, ad, nk⟩ := x
    have cl_Memory := T.cl_Memory
    have na_Memory_pairs := T.na_Memory_pairs
    have na_Memory_wide := T.na_Memory_wide
    have cl_Ties := T.cl_Ties
    have na_Ties_near := T.na_Ties_near
    have na_Ties_own_ever := T.na_Ties_own_ever
    have na_Ties_own_living := T.na_Ties_own_living
    have cl_Store := T.cl_Store
    have na_Store_kept_by_world := T.na_Store_kept_by_world
    have na_Store_own_size := T.na_Store_own_size
    have na_Store_own_ties := T.na_Store_own_ties
    refine ⟨_, (pss_one (ps_ret (k_fld (K := K) rfl (pv 0) rfl))), ?_⟩
    dsimp only [cxOf, st_1, st_2, st_3, st_4, st_5, st_6, List.length_cons, List.length_nil, List.replicate_succ, List.replicate_zero, Nat.reduceAdd, Nat.reduceSub]
    walk_at "gs"
    exact k
def sp_tliving (C : Addr) : Sp := fun vs H Q _ => ∃ (t : Addr) (ps : List Addr) (ever : Int) (liv ks : List Int) (nb : Int → List Int), vs = [.ref t] ∧ TiesAt C H t ps ever liv ks nb ∧ ∀ R, Fr H R → Q (.ref R) (upd H R (.lst (liv.map V.int)))
theorem sc_Ties_living : FnScope ["self"] ["self"] (defScope s_Ties_living) :=
  ⟨rfl, rfl, rfl, by decide +kernel, rfl, by decide +kernel, by decide +kernel⟩
theorem ok_Ties_living {P : Program} {w : World} {K : PySem.W.Frag} {mg : Str → Option Value} {base : Heap} (T : Txt K mg) :
    FnG P w K mg base 1 T.a_Ties_living T.d_Ties_living ["self"] (sp_tliving T.c_Ties) := by
  refine okD T.F_Ties_living sc_Ties_living (fun vs H Q E h => ?_) (fun cdv A outer s H vs Q E hr h => ?_)
  · first
      | (obtain ⟨_, rfl, _⟩ := h; rfl)
      | (obtain ⟨_, _, rfl, _⟩ := h; rfl)
      | (obtain ⟨_, _, _, rfl, _⟩ := h; rfl)
      | (obtain ⟨_, _, _, _, rfl, _⟩ := h; rfl)
      | (obtain ⟨_, _, _, _, _, rfl, _⟩ := h; rfl)
      | (obtain ⟨_, _, _, _, _, _, rfl, _⟩ := h; rfl)
      | (obtain ⟨_, _, _, _, _, _, _, rfl, _⟩ := h; rfl)
      | (obtain ⟨_, _, _, _, _, _, _, _, rfl, _⟩ := h; rfl)
      | (obtain ⟨_, _, _, _, _, _, _, _, _, rfl, _⟩ := h; rfl)
      | (obtain ⟨_, _, _, _, _, _, _, _, _, _, rfl, _⟩ := h; rfl)
      | (obtain ⟨_, _, _, _, _, _, _, _, _, _, _, rfl, _⟩ := h; rfl)
      | (obtain ⟨_, _, _, _, _, _, _, _, _, _, _, _, rfl, _⟩ := h; rfl)
      | (obtain ⟨_, _, _, _, _, _, _, _, _, _, _, _, _, rfl, _⟩ := h; rfl)
      | (obtain ⟨_, _, _, _, _, _, _, _, _, _, _, _, _, _, rfl, _⟩ := h; rfl)
      | (obtain ⟨_, _, _, _, _, _, _, _, _, _, _, _, _, _, _, rfl, _⟩ := h; rfl)
      | (obtain ⟨_, _, _, _, _, _, _, _, _, _, _, _, _, _, _, _, rfl, _⟩ := h; rfl)
      | (obtain ⟨_, _, _, _, _, _, _, _, _, _, _, _, _, _, _, _, _, rfl, _⟩ := h; rfl)
      | (obtain ⟨_, _, _, _, _, _, _, _, _, _, _, _, _, _, _, _, _, _, rfl, _⟩ := h; rfl)
      | (obtain ⟨_, _, _, _, _, _, _, _, _, _, _, _, _, _, _, _, _, _, _, rfl, _⟩ := h; rfl)
  · obtain ⟨t, ps, ever, liv, ks, nb, rfl, ⟨lv, nd, dx, rep, x, rfl, rfl⟩, k⟩ := h
    obtain ⟨ht, hl, hn, hr, ad, nk⟩ := x
    have cl_Memory := T.cl_Memory
    have na_Memory_pairs := T.na_Memory_pairs
    have na_Memory_wide := T.na_Memory_wide
    have cl_Ties := T.cl_Ties
    have na_Ties_near := T.na_Ties_near
    have na_Ties_own_ever := T.na_Ties_own_ever
    have na_Ties_own_living := T.na_Ties_own_living
    have cl_Store := T.cl_Store
    have na_Store_kept_by_world := T.na_Store_kept_by_world
    have na_Store_own_size := T.na_Store_own_size
    have na_Store_own_ties := T.na_Store_own_ties
    refine ⟨_, (pss_one (ps_ret (pe_callTy (k_list (K := K) rfl) (by rfl) T.n_list (by decide +kernel) (pa_cons (k_fld (K := K) rfl (pv 0) rfl) pa_nil)))), ?_⟩
    dsimp only [cxOf, st_1, st_2, st_3, st_4, st_5, st_6, List.length_cons, List.length_nil, List.replicate_succ, List.replicate_zero, Nat.reduceAdd, Nat.reduceSub]
    walk_at "gs"
    refine i_new fun R fR => ?_
    walk_at "gs"
    exact k R fR
def FreeOf (liv ks fs : List Int) : Prop := fs.Pairwise (· < ·) ∧ ∀ x, x ∈ fs ↔ x ∈ ks ∧ x ∉ liv
def sp_tfree (C : Addr) : Sp := fun vs H Q _ => ∃ (t : Addr) (ps : List Addr) (ever : Int) (liv ks : List Int) (nb : Int → List Int), vs = [.ref t] ∧ TiesAt C H t ps ever liv ks nb ∧ ks.length ≤ 1000 ∧
  ∀ R fs H', Fr H R → Kp [] H H' → H' R = some (.lst (fs.map V.int)) → FreeOf liv ks fs → Q (.ref R) H'
theorem sc_Ties_free : FnScope ["self", "world"] ["self"] (defScope s_Ties_free) :=
  ⟨rfl, rfl, rfl, by decide +kernel, rfl, by decide +kernel, by decide +kernel⟩
theorem ok_Ties_free {P : Program} {w : World} {K : PySem.W.Frag} {mg : Str → Option Value} {base : Heap} (T : Txt K mg) :
    FnG P w K mg base 1 T.a_Ties_free T.d_Ties_free ["self"] (sp_tfree T.c_Ties) := by
  refine okD T.F_Ties_free sc_Ties_free (fun vs H Q E h => ?_) (fun cdv A outer s H vs Q E hr h => ?_)
  · first
      | (obtain ⟨_, rfl, _⟩ := h; rfl)
      | (obtain ⟨_, _, rfl, _⟩ := h; rfl)
      | (obtain ⟨_, _, _, rfl, _⟩ := h; rfl)
      | (obtain ⟨_, _, _, _, rfl, _⟩ := h; rfl)
      | (obtain ⟨_, _, _, _, _, rfl, _⟩ := h; rfl)
      | (obtain ⟨_, _, _, _, _, _, rfl, _⟩ := h; rfl)
      | (obtain ⟨_, _, _, _, _, _, _, rfl, _⟩ := h; rfl)
      | (obtain ⟨_, _, _, _, _, _, _, _, rfl, _⟩ := h; rfl)
      | (obtain ⟨_, _, _, _, _, _, _, _, _, rfl, _⟩ := h; rfl)
      | (obtain ⟨_, _, _, _, _, _, _, _, _, _, rfl, _⟩ := h; rfl)
      | (obtain ⟨_, _, _, _, _, _, _, _, _, _, _, rfl, _⟩ := h; rfl)
      | (obtain ⟨_, _, _, _, _, _, _, _, _, _, _, _, rfl, _⟩ := h; rfl)
      | (obtain ⟨_, _, _, _, _, _, _, _, _, _, _, _, _, rfl, _⟩ := h; rfl)
      | (obtain ⟨_, _, _, _, _, _, _, _, _, _, _, _, _, _, rfl, _⟩ := h; rfl)
      | (obtain ⟨_, _, _, _, _, _, _, _, _, _, _, _, _, _, _, rfl, _⟩ := h; rfl)
      | (obtain ⟨_, _, _, _, _, _, _, _, _, _, _, _, _, _, _, _, rfl, _⟩ := h; rfl)
      | (obtain ⟨_, _, _, _, _, _, _, _, _, _, _, _, _, _, _, _, _, rfl, _⟩ := h; rfl)
      | (obtain ⟨_, _, _, _, _, _, _, _, _, _, _, _, _, _, _, _, _, _, rfl, _⟩ := h; rfl)
      | (obtain ⟨_, _, _, _, _, _, _, _, _, _, _, _, _, _, _, _, _, _, _, rfl, _⟩ := h; rfl)
  · obtain ⟨t, ps, ever, liv, ks, nb, rfl, ⟨lv, nd, dx, rep, x, rfl, rfl⟩, kl, k⟩ := h
    have nds := x.ad
    simp only [List.nodup_cons, List.mem_cons, not_or] at nds
    obtain ⟨⟨ntl, ntd, _⟩, ⟨nld, _⟩, _⟩ := nds
    obtain ⟨ht, hl, hn, hr, ad, nk⟩ := x
    have cl_Memory := T.cl_Memory
    have na_Memory_pairs := T.na_Memory_pairs
    have na_Memory_wide := T.na_Memory_wide
    have cl_Ties := T.cl_Ties
    have na_Ties_near := T.na_Ties_near
    have na_Ties_own_ever := T.na_Ties_own_ever
    have na_Ties_own_living := T.na_Ties_own_living
    have cl_Store := T.cl_Store
    have na_Store_kept_by_world := T.na_Store_kept_by_world
    have na_Store_own_size := T.na_Store_own_size
    have na_Store_own_ties := T.na_Store_own_ties
    refine ⟨_, (pss_one (ps_ret (pe_callB (k_sorted (K := K) rfl) (by rfl) T.n_sorted (by decide +kernel) (pa_cons (pe_lock (pe_lc (own := [("world", 1)]) (g := (gName 1)) rfl sc_Ties_free.nd (pi_keys (k_fld (K := K) rfl (pv 0) rfl)) (blkOk_by (own := [("world", 1)]) (N := ["self", "world"]) (sc := defScope s_Ties_free) (by decide +kernel)) (fun _ _ _ _ _ => (pg_name (i := 1) sc_Ties_free.nd rfl (Or.inl rfl))) (fun _ _ _ _ _ => (pts_one (pt_cmpR (k_nin (K := K) rfl) (pv 1) (k_fld (K := K) rfl (pv 0) rfl) (rfl)))) (fun _ _ _ _ _ => (pv 1)))) pa_nil)))), ?_⟩
    dsimp only [cxOf, st_1, st_2, st_3, st_4, st_5, st_6, List.length_cons, List.length_nil, List.replicate_succ, List.replicate_zero, Nat.reduceAdd, Nat.reduceSub]
    walk_at "gs"
    refine i_lockE hn fun od => ?_
    walk_at "gs"
    have kd : Kp [] H (upd (upd H nd (.frz od (.dK (rep.map kA)))) nd (.dK (rep.map kA))) := kp_unl hn (fun z => z) Kp.refl
    refine i_keyG (o := od) upd_same (fun R i H' => Kp [] (upd H nd (.frz od (.dK (rep.map kA)))) H' ∧ H' R = some (.lst ((((rep.take i).map (·.1)).filter fun w => decide (w ∉ liv)).map V.int))) ?_ ?_ ?_ ?_
    · intro R fR
      exact ⟨Kp.new fR, upd_same⟩
    · rintro R i H' fR ⟨k1, _⟩
      exact k1.at_ _ _ upd_same not_nil
    · rintro R i ky v H' fR hk ⟨k1, hR⟩
      obtain ⟨p, hp, e⟩ := map_get hk
      cases e
      have hl1 : SqL K H' lv (liv.map V.int) := SqL.of (k1.at_ _ _ (by rw [upd_ne nld]; exact hl) not_nil)
      have ht1 : H' t = some (.ins T.c_Ties dx (tfs ever lv nd)) := k1.at_ _ _ (by rw [upd_ne ntd]; exact ht) not_nil
      have hil := (List.getElem?_eq_some_iff.mp hp).1
      have step : (((rep.take (i + 1)).map (·.1)).filter fun w => decide (w ∉ liv)) = (((rep.take i).map (·.1)).filter fun w => decide (w ∉ liv)) ++ (if p.1 ∉ liv then [p.1] else []) := by
        rw [List.take_add_one, hp, List.map_append, List.filter_append]
        congr 1
        by_cases c : p.1 ∉ liv <;> simp [c]
      show gName 1 (.int p.1) _ _ _
      walk_at "gs"
      refine i_bool2 (fun c => ?_) (fun c => ?_)
      · walk_at "gs"
        refine ⟨_, hR, small_sz ?_, Kp.upd k1 fR, ?_⟩
        · rw [List.length_map]
          have e1 := List.length_filter_le (fun w => decide (w ∉ liv)) ((rep.take i).map (·.1))
          rw [List.length_map, List.length_take] at e1
          rw [List.length_map] at kl
          omega
        · have c' : p.1 ∉ liv := by simpa using c
          rw [step, if_pos c', List.map_append]
          exact upd_same
      · refine ⟨k1, ?_⟩
        have c' : ¬ p.1 ∉ liv := by simpa using c
        rw [step, if_neg c', List.append_nil]
        exact hR
    rintro R H' fR ⟨k1, hR⟩
    rw [List.length_map, List.take_length] at hR
    have fR' : Fr H R := by walk_at "g_fr"
    have nRd : R ≠ nd := Ne.symm (fr_ne hn fR')
    have k0 : Kp [] H (upd H' nd (.dK (rep.map kA))) := kp_unl hn (fun z => z) k1
    refine ⟨k1.at_ _ _ upd_same not_nil, ?_⟩
    walk_at "gs"
    refine i_sorted (SqL.of (by rw [upd_ne nRd]; exact hR)) fun fs p pm ps fp => ?_
    have fp0 : Fr H p := k0.free fp
    refine k p fs _ fp0 (Kp.upd k0 fp0) upd_same ⟨strict_of pm (nk.filter _) ps, fun y => ?_⟩
    rw [pm.mem_iff, List.mem_filter, decide_eq_true_eq]

/-! ### rows -/
def rwOf (nb : Int → List Int) (u : Int) : List (Int × Int) := ((nb u).filter fun v => decide (u < v)).map fun v => (u, v)
def rws (nb : Int → List Int) (ks : List Int) : List (Int × Int) := ks.flatMap (rwOf nb)
def RowsOf (ks : List Int) (nb : Int → List Int) (rs : List (Int × Int)) : Prop := rs.Pairwise ltQ ∧ ∀ q, q ∈ rs ↔ q.1 ∈ ks ∧ q.2 ∈ nb q.1 ∧ q.1 < q.2
section
variable {ks : List Int} {nb : Int → List Int}
theorem mem_rwOf {u : Int} {q : Int × Int} : q ∈ rwOf nb u ↔ q.1 = u ∧ q.2 ∈ nb u ∧ u < q.2 := by
  unfold rwOf
  rw [List.mem_map]
  constructor
  · rintro ⟨v, h, rfl⟩
    rw [List.mem_filter, decide_eq_true_eq] at h
    exact ⟨rfl, h⟩
  · rintro ⟨a, b, c⟩
    refine ⟨q.2, List.mem_filter.mpr ⟨b, decide_eq_true c⟩, ?_⟩
    rw [← a]
theorem mem_rws {q : Int × Int} : q ∈ rws nb ks ↔ q.1 ∈ ks ∧ q.2 ∈ nb q.1 ∧ q.1 < q.2 := by
  unfold rws
  rw [List.mem_flatMap]
  constructor
  · rintro ⟨u, hu, h⟩
    obtain ⟨a, b, c⟩ := mem_rwOf.mp h
    rw [a]
    exact ⟨hu, b, c⟩
  · rintro ⟨a, b, c⟩
    exact ⟨q.1, a, mem_rwOf.mpr ⟨rfl, b, c⟩⟩
theorem rws_nd (nk : ks.Nodup) (nd : ∀ u ∈ ks, (nb u).Nodup) : (rws nb ks).Nodup := by
  unfold rws
  refine List.pairwise_flatMap.mpr ⟨fun u hu => ?_, nk.imp fun {a b} n x hx y hy e => ?_⟩
  · refine List.pairwise_map.mpr (((nd u hu).filter _).imp fun {a b} n e => ?_)
    injection e with _ e
    exact n e
  · rw [← (mem_rwOf.mp hx).1, ← (mem_rwOf.mp hy).1, e] at n
    exact n rfl
theorem rws_len {n : Nat} : ∀ {ks : List Int}, (∀ u ∈ ks, (nb u).length ≤ n) → (rws nb ks).length ≤ ks.length * n
  | [], _ => by simp [rws]
  | u :: ks, h => by
    have ih := rws_len (ks := ks) fun v hv => h v (List.mem_cons_of_mem _ hv)
    have h1 := h u List.mem_cons_self
    have h2 := List.length_filter_le (fun v => decide (u < v)) (nb u)
    unfold rws at ih ⊢
    rw [List.flatMap_cons, List.length_append, List.length_cons, Nat.succ_mul]
    unfold rwOf at ih ⊢
    rw [List.length_map]
    omega
theorem rws_step {u : Int} {l : List Int} {i : Nat} (h : ks[i]? = some u) : rws nb (ks.take (i + 1)) = rws nb (ks.take i) ++ rwOf nb u := by
  unfold rws
  rw [List.take_add_one, h, List.flatMap_append]
  simp
theorem kp_set {H : Hp} {d : Addr} {u v : HO} (h : H d = some u) (nu : ¬ Fix u) : Kp [d] H (upd H d v) := Kp.mut h nu (List.mem_singleton.mpr rfl)
end
theorem PrsAt.unl {H : Hp} {d : Addr} {o : Obj} {u v : HO} (h : H d = some (.frz o u)) : ∀ {xs : List V} {ps : List (Int × Int)}, PrsAt H xs ps → PrsAt (upd H d v) xs ps
  | [], [], _ => trivial
  | _ :: _, _ :: _, ⟨⟨t, e, q⟩, r⟩ => ⟨⟨t, e, by
      have n : t ≠ d := fun z => by
        rw [z, h] at q
        cases q
      rw [upd_ne n]
      exact q⟩, PrsAt.unl h r⟩
  | [], _ :: _, h => h.elim
  | _ :: _, [], h => h.elim
def sp_trows (K : PySem.W.Frag) (C : Addr) : Sp := fun vs H Q _ => ∃ (D : Int → Int → Int) (t : Addr) (ps : List Addr) (ever : Int) (liv ks : List Int) (nb : Int → List Int), vs = [.ref t] ∧ TiesAt C H t ps ever liv ks nb ∧ Tr3 D ever liv ks nb ∧ ever ≤ 200 ∧
  ∀ R rs H', Fr H R → Kp [] H H' → LD K H' R (rs.map d2) → RowsOf ks nb rs → Q (.ref R) H'
theorem sc_Ties_rows : FnScope ["self", "low", "others", "high"] ["self"] (defScope s_Ties_rows) :=
  ⟨rfl, rfl, rfl, by decide +kernel, rfl, by decide +kernel, by decide +kernel⟩
theorem ok_Ties_rows {P : Program} {w : World} {K : PySem.W.Frag} {mg : Str → Option Value} {base : Heap} (T : Txt K mg) :
    FnG P w K mg base 1 T.a_Ties_rows T.d_Ties_rows ["self"] (sp_trows K T.c_Ties) := by
  refine okD T.F_Ties_rows sc_Ties_rows (fun vs H Q E h => ?_) (fun cdv A outer s H vs Q E hr h => ?_)
  · first
      | (obtain ⟨_, rfl, _⟩ := h; rfl)
      | (obtain ⟨_, _, rfl, _⟩ := h; rfl)
      | (obtain ⟨_, _, _, rfl, _⟩ := h; rfl)
      | (obtain ⟨_, _, _, _, rfl, _⟩ := h; rfl)
      | (obtain ⟨_, _, _, _, _, rfl, _⟩ := h; rfl)
      | (obtain ⟨_, _, _, _, _, _, rfl, _⟩ := h; rfl)
      | (obtain ⟨_, _, _, _, _, _, _, rfl, _⟩ := h; rfl)
      | (obtain ⟨_, _, _, _, _, _, _, _, rfl, _⟩ := h; rfl)
      | (obtain ⟨_, _, _, _, _, _, _, _, _, rfl, _⟩ := h; rfl)
      | (obtain ⟨_, _, _, _, _, _, _, _, _, _, rfl, _⟩ := h; rfl)
      | (obtain ⟨_, _, _, _, _, _, _, _, _, _, _, rfl, _⟩ := h; rfl)
      | (obtain ⟨_, _, _, _, _, _, _, _, _, _, _, _, rfl, _⟩ := h; rfl)
      | (obtain ⟨_, _, _, _, _, _, _, _, _, _, _, _, _, rfl, _⟩ := h; rfl)
      | (obtain ⟨_, _, _, _, _, _, _, _, _, _, _, _, _, _, rfl, _⟩ := h; rfl)
      | (obtain ⟨_, _, _, _, _, _, _, _, _, _, _, _, _, _, _, rfl, _⟩ := h; rfl)
      | (obtain ⟨_, _, _, _, _, _, _, _, _, _, _, _, _, _, _, _, rfl, _⟩ := h; rfl)
      | (obtain ⟨_, _, _, _, _, _, _, _, _, _, _, _, _, _, _, _, _, rfl, _⟩ := h; rfl)
      | (obtain ⟨_, _, _, _, _, _, _, _, _, _, _, _, _, _, _, _, _, _, rfl, _⟩ := h; rfl)
      | (obtain ⟨_, _, _, _, _, _, _, _, _, _, _, _, _, _, _, _, _, _, _, rfl, _⟩ := h; rfl)
  · obtain ⟨D, t, ps, ever, liv, ks, nb, rfl, ⟨lv, nd, dx, rep, x, rfl, rfl⟩, z, he, k⟩ := h
    have klen := z.klen
    have nds := x.ad
    simp only [List.nodup_cons, List.mem_cons, not_or] at nds
    obtain ⟨⟨ntl, ntd, _⟩, ⟨nld, _⟩, ndr, _⟩ := nds
    obtain ⟨ht, hl, hn, hr, ad, nk⟩ := x
    have ndp : ∀ p ∈ rep, p.2 ≠ nd := fun p hp e => ndr (List.mem_map.mpr ⟨p, hp, e⟩)
    rw [List.length_map] at klen
    have cl_Memory := T.cl_Memory
    have na_Memory_pairs := T.na_Memory_pairs
    have na_Memory_wide := T.na_Memory_wide
    have cl_Ties := T.cl_Ties
    have na_Ties_near := T.na_Ties_near
    have na_Ties_own_ever := T.na_Ties_own_ever
    have na_Ties_own_living := T.na_Ties_own_living
    have cl_Store := T.cl_Store
    have na_Store_kept_by_world := T.na_Store_kept_by_world
    have na_Store_own_size := T.na_Store_own_size
    have na_Store_own_ties := T.na_Store_own_ties
    refine ⟨_, (pss_one (ps_ret (pe_callB (k_sortedP (K := K) rfl) (by rfl) T.n_sorted (by decide +kernel) (pa_cons (pe_lock (pe_lc2 (own := [("low", 1), ("others", 2), ("high", 3)]) (vs1 := [3]) (g := (gTup K 2 (gCons (gName 1) (gCons (gName 2) gNil)))) (g1 := (gName 3)) (tt := tYes) rfl sc_Ties_rows.nd (pi_items (k_fld (K := K) rfl (pv 0) rfl)) (blkOk_by (own := [("low", 1), ("others", 2), ("high", 3)]) (N := ["self", "low", "others", "high"]) (sc := defScope s_Ties_rows) (by decide +kernel)) (by decide) (fun _ _ _ _ _ => (k_gtup (K := K) 2 rfl rfl (pgs_cons (pg_name (i := 1) sc_Ties_rows.nd rfl (Or.inl rfl)) (pgs_cons (pg_name (i := 2) sc_Ties_rows.nd rfl (Or.inl rfl)) pgs_nil)))) (fun _ _ _ _ _ => pts_nil) (fun _ _ _ _ _ => (k_plist (K := K) rfl (pv 2))) (fun _ _ _ _ _ => (pg_name (i := 3) sc_Ties_rows.nd rfl (Or.inl rfl))) (fun _ _ _ _ _ => (pts_one (pt_cmpR op_lt (pv 1) (pv 3) (nomark _)))) (fun _ _ _ _ _ => (pe_tup (pa_cons (pv 1) (pa_cons (pv 3) pa_nil)))))) pa_nil)))), ?_⟩
    dsimp only [cxOf, st_1, st_2, st_3, st_4, st_5, st_6, List.length_cons, List.length_nil, List.replicate_succ, List.replicate_zero, Nat.reduceAdd, Nat.reduceSub]
    walk_at "gs"
    refine i_lockE hn fun od => ?_
    walk_at "gs"
    refine i_itemG (o := od) upd_same (fun R i H' => Kp [] (upd H nd (.frz od (.dK (rep.map kA)))) H' ∧ ∃ xs, H' R = some (.lst xs) ∧ PrsAt H' xs (rws nb ((rep.map (·.1)).take i))) ?_ ?_ ?_ ?_
    · intro R fR
      exact ⟨Kp.new fR, [], upd_same, trivial⟩
    · rintro R i H' fR ⟨k1, _⟩
      exact k1.at_ _ _ upd_same not_nil
    · rintro R i ky v U H' fR hk ⟨k1, xs, hR, px⟩ fU
      obtain ⟨p, hp, e⟩ := map_get hk
      cases e
      have hpm : p ∈ rep := List.mem_of_getElem? hp
      have hik : (rep.map (·.1))[i]? = some p.1 := by rw [List.getElem?_map, hp]; rfl
      have hpk : p.1 ∈ rep.map (·.1) := List.mem_of_getElem? hik
      have hub := z.nlen hpk
      have hil := (List.getElem?_eq_some_iff.mp hp).1
      have hpa : H' p.2 = some (.lst ((nb p.1).map V.int)) := k1.at_ _ _ (by rw [upd_ne (ndp p hpm)]; exact hr p hpm) not_nil
      have kU : Kp [] H' (upd H' U (.tup [V.int p.1, V.ref p.2])) := Kp.new fU
      have hU : SqT K (upd H' U (.tup [V.int p.1, V.ref p.2])) U [V.int p.1, V.ref p.2] := SqT.of upd_same
      have hpa' := kU.at_ _ _ hpa not_nil
      have hR' := kU.at_ _ _ hR not_nil
      have px' := px.kp kU
      have k1' := Kp.trans k1 kU
      have hlen : (rws nb ((rep.map (·.1)).take i)).length ≤ 40000 := by
        have e := rws_len (nb := nb) (n := 200) (ks := (rep.map (·.1)).take i) fun u hu => by
          have := z.nlen (List.mem_of_mem_take hu)
          omega
        have e2 : ((rep.map (·.1)).take i).length ≤ 200 := by
          rw [List.length_take, List.length_map]
          omega
        have e3 := Nat.mul_le_mul_right 200 e2
        omega
      have hxl := px'.len
      show gTup K 2 _ (.ref U) _ (upd H' U (.tup [V.int p.1, V.ref p.2])) _
      walk_at "gs"
      refine i_in2L ?_
      walk_at "gs"
      refine i_inL (SqL.of hpa') (fun j H2 => Kp [] (upd H nd (.frz od (.dK (rep.map kA)))) H2 ∧ H2 p.2 = some (.lst ((nb p.1).map V.int)) ∧ ∃ xs, H2 R = some (.lst xs) ∧ PrsAt H2 xs (rws nb ((rep.map (·.1)).take i) ++ ((((nb p.1).take j).filter fun v => decide (p.1 < v)).map fun v => (p.1, v)))) ?_ ?_ ?_ ?_
      · refine ⟨k1', hpa', xs, hR', ?_⟩
        rw [List.take_zero, List.filter_nil, List.map_nil, List.append_nil]
        exact px'
      · rintro j H2 _ ⟨_, h, _⟩
        exact SqL.of h
      · rintro j y H2 hy ⟨k2, h2, ys, hys, py⟩
        obtain ⟨v, hv, e⟩ := map_get hy
        subst e
        have hyl := py.len
        rw [List.length_append, List.length_map] at hyl
        have hfl := List.length_filter_le (fun v => decide (p.1 < v)) ((nb p.1).take j)
        rw [List.length_take] at hfl
        have step : ∀ P : List (Int × Int), P ++ ((((nb p.1).take (j + 1)).filter fun v => decide (p.1 < v)).map fun v => (p.1, v)) = (P ++ ((((nb p.1).take j).filter fun v => decide (p.1 < v)).map fun v => (p.1, v))) ++ (if p.1 < v then [(p.1, v)] else []) := fun P => by
          rw [List.take_add_one, hv, List.filter_append, List.map_append, List.append_assoc]
          congr 2
          by_cases c : p.1 < v <;> simp [c]
        walk_at "gs"
        refine i_dec (fun c => ?_) (fun c => ?_)
        · walk_at "gs"
          refine i_new fun W fW => ?_
          have kW : Kp [] H2 (upd H2 W (.tup [V.int p.1, V.int v])) := Kp.new fW
          have hW := kW.at_ _ _ hys not_nil
          have kR : Kp [R] (upd H2 W (.tup [V.int p.1, V.int v])) (upd (upd H2 W (.tup [V.int p.1, V.int v])) R (.lst (ys ++ [V.ref W]))) := kp_set hW (fun z => z)
          have npR : p.2 ≠ R := fr_ne (by rw [upd_ne (ndp p hpm)]; exact hr p hpm) fR
          walk_at "gs"
          refine ⟨ys, hW, small_sz (by omega), Kp.upd (Kp.trans k2 kW) fR, ?_, ys ++ [.ref W], upd_same, ?_⟩
          · rw [upd_ne npR]
            exact kW.at_ _ _ h2 not_nil
          · rw [step, if_pos c]
            exact (PrsAt.snoc (q := (p.1, v)) upd_same (py.kp kW)).kp kR
        · refine ⟨k2, h2, ys, hys, ?_⟩
          rw [step, if_neg c, List.append_nil]
          exact py
      · rintro H2 ⟨k2, h2, ys, hys, py⟩
        rw [List.length_map, List.take_length] at py
        refine ⟨k2, ys, hys, ?_⟩
        rw [rws_step (l := []) hik]
        exact py
    rintro R H' fR ⟨k1, xs, hR, px⟩
    have fR' : Fr H R := by walk_at "g_fr"
    have nRd : R ≠ nd := Ne.symm (fr_ne hn fR')
    have hnd : H' nd = some (.frz od (.dK (rep.map kA))) := k1.at_ _ _ upd_same not_nil
    have k0 : Kp [] H (upd H' nd (.dK (rep.map kA))) := kp_unl hn (fun z => z) k1
    refine ⟨hnd, ?_⟩
    walk_at "gs"
    refine i_sortedP (by rw [upd_ne nRd]; exact hR) (px.unl hnd) ?_ fun rs p H2 fp k2 ld pm pw => ?_
    · rw [List.length_map, List.take_of_length_le (by rw [List.length_map]; exact Nat.le_refl _)]
      exact rws_nd nk z.rp.nd
    refine k p rs H2 (k0.free fp) (Kp.trans k0 k2) ld ⟨pw, fun q => ?_⟩
    rw [pm.mem_iff, List.length_map, List.take_of_length_le (by rw [List.length_map]; exact Nat.le_refl _), mem_rws]
/-! ### asked of anything -/
def cntD : PyData → Bool
  | .int n => decide (0 ≤ n)
  | _ => false
theorem cnt_no {d : PyData} (h : isI d = false) : cntD d = false := by
  cases d <;> first | rfl | (cases h)
theorem cnt_int {d : PyData} (h : cntD d = true) : ∃ n, d = .int n ∧ 0 ≤ n := by
  cases d <;> first | (cases h; done) | exact ⟨_, rfl, of_decide_eq_true h⟩
def sp_is_count (K : PySem.W.Frag) : Sp := fun vs H Q _ => ∃ (v : V) (d : PyData), vs = [v] ∧ Any K H v d ∧ Q (.bl (cntD d)) H
theorem sc_is_count : FnScope ["thing"] ["thing"] (defScope s_is_count) :=
  ⟨rfl, rfl, rfl, by decide +kernel, rfl, by decide +kernel, by decide +kernel⟩
theorem ok_is_count {P : Program} {w : World} {K : PySem.W.Frag} {mg : Str → Option Value} {base : Heap} (T : Txt K mg) :
    FnG P w K mg base 1 T.a_is_count T.d_is_count ["thing"] (sp_is_count K) := by
  refine okD T.F_is_count sc_is_count (fun vs H Q E h => ?_) (fun cdv A outer s H vs Q E hr h => ?_)
  · first
      | (obtain ⟨_, rfl, _⟩ := h; rfl)
      | (obtain ⟨_, _, rfl, _⟩ := h; rfl)
      | (obtain ⟨_, _, _, rfl, _⟩ := h; rfl)
      | (obtain ⟨_, _, _, _, rfl, _⟩ := h; rfl)
      | (obtain ⟨_, _, _, _, _, rfl, _⟩ := h; rfl)
      | (obtain ⟨_, _, _, _, _, _, rfl, _⟩ := h; rfl)
      | (obtain ⟨_, _, _, _, _, _, _, rfl, _⟩ := h; rfl)
      | (obtain ⟨_, _, _, _, _, _, _, _, rfl, _⟩ := h; rfl)
      | (obtain ⟨_, _, _, _, _, _, _, _, _, rfl, _⟩ := h; rfl)
      | (obtain ⟨_, _, _, _, _, _, _, _, _, _, rfl, _⟩ := h; rfl)
      | (obtain ⟨_, _, _, _, _, _, _, _, _, _, _, rfl, _⟩ := h; rfl)
      | (obtain ⟨_, _, _, _, _, _, _, _, _, _, _, _, rfl, _⟩ := h; rfl)
      | (obtain ⟨_, _, _, _, _, _, _, _, _, _, _, _, _, rfl, _⟩ := h; rfl)
      | (obtain ⟨_, _, _, _, _, _, _, _, _, _, _, _, _, _, rfl, _⟩ := h; rfl)
      | (obtain ⟨_, _, _, _, _, _, _, _, _, _, _, _, _, _, _, rfl, _⟩ := h; rfl)
      | (obtain ⟨_, _, _, _, _, _, _, _, _, _, _, _, _, _, _, _, rfl, _⟩ := h; rfl)
      | (obtain ⟨_, _, _, _, _, _, _, _, _, _, _, _, _, _, _, _, _, rfl, _⟩ := h; rfl)
      | (obtain ⟨_, _, _, _, _, _, _, _, _, _, _, _, _, _, _, _, _, _, rfl, _⟩ := h; rfl)
      | (obtain ⟨_, _, _, _, _, _, _, _, _, _, _, _, _, _, _, _, _, _, _, rfl, _⟩ := h; rfl)
  · obtain ⟨v, d, rfl, hd, k⟩ := h
    refine ⟨_, (pss_one (ps_ret (pe_and (pe_callB (k_isi (K := K) rfl) (by rfl) T.n_isinstance (by decide +kernel) (pa_cons (pv 0) (pa_cons (pe_bltn (v := .ty "int") (by rfl) T.n_int (by decide +kernel) rfl) pa_nil))) (pe_and (pe_not (pe_callB (k_isi (K := K) rfl) (by rfl) T.n_isinstance (by decide +kernel) (pa_cons (pv 0) (pa_cons (pe_bltn (v := .ty "bool") (by rfl) T.n_bool (by decide +kernel) rfl) pa_nil)))) (pe_one (pe_cmpR op_ge (pv 0) pe_int (nomark _))))))), ?_⟩
    dsimp only [cxOf, st_1, st_2, st_3, st_4, st_5, st_6, List.length_cons, List.length_nil, List.replicate_succ, List.replicate_zero, Nat.reduceAdd, Nat.reduceSub]
    walk_at "gs"
    refine i_isA hd (kit_int d) ?_
    walk_at "gs"
    refine i_bool2 (fun c => ?_) (fun c => ?_)
    · walk_at "gs"
      refine i_isA hd (kit_bool d) ?_
      walk_at "gs"
      refine i_bool2 (fun c2 => ?_) (fun c2 => ?_)
      · have e : isI d = true := by rw [isI_eq, c, c2]; rfl
        obtain ⟨n, rfl⟩ := isI_int e
        obtain rfl := hd.2 n rfl
        walk_at "gs"
        exact k
      · rw [cnt_no (by rw [isI_eq, c2, Bool.and_false])] at k
        exact k
    · rw [cnt_no (by rw [isI_eq, c, Bool.false_and])] at k
      exact k
def inL (l : List Int) : PyData → Bool
  | .int n => decide (0 ≤ n ∧ n ∈ l)
  | _ => false
theorem inL_no {l : List Int} {d : PyData} (h : cntD d = false) : inL l d = false := by
  cases d <;> first | rfl | exact decide_eq_false (fun z => absurd z.1 (of_decide_eq_false h))

def sp_tlives (K : PySem.W.Frag) (C : Addr) : Sp := fun vs H Q _ => ∃ (t : Addr) (ps : List Addr) (ever : Int) (liv ks : List Int) (nb : Int → List Int) (v : V) (d : PyData), vs = [.ref t, v] ∧ TiesAt C H t ps ever liv ks nb ∧ Any K H v d ∧ Q (.bl (inL liv d)) H
theorem sc_Ties_lives : FnScope ["self", "thing"] ["self", "thing"] (defScope s_Ties_lives) :=
  ⟨rfl, rfl, rfl, by decide +kernel, rfl, by decide +kernel, by decide +kernel⟩
theorem ok_Ties_lives {P : Program} {w : World} {K : PySem.W.Frag} {mg : Str → Option Value} {base : Heap} (T : Txt K mg) :
    FnG P w K mg base 2 T.a_Ties_lives T.d_Ties_lives ["self", "thing"] (sp_tlives K T.c_Ties) := by
  refine okD T.F_Ties_lives sc_Ties_lives (fun vs H Q E h => ?_) (fun cdv A outer s H vs Q E hr h => ?_)
  · first
      | (obtain ⟨_, rfl, _⟩ := h; rfl)
      | (obtain ⟨_, _, rfl, _⟩ := h; rfl)
      | (obtain ⟨_, _, _, rfl, _⟩ := h; rfl)
      | (obtain ⟨_, _, _, _, rfl, _⟩ := h; rfl)
      | (obtain ⟨_, _, _, _, _, rfl, _⟩ := h; rfl)
      | (obtain ⟨_, _, _, _, _, _, rfl, _⟩ := h; rfl)
      | (obtain ⟨_, _, _, _, _, _, _, rfl, _⟩ := h; rfl)
      | (obtain ⟨_, _, _, _, _, _, _, _, rfl, _⟩ := h; rfl)
      | (obtain ⟨_, _, _, _, _, _, _, _, _, rfl, _⟩ := h; rfl)
      | (obtain ⟨_, _, _, _, _, _, _, _, _, _, rfl, _⟩ := h; rfl)
      | (obtain ⟨_, _, _, _, _, _, _, _, _, _, _, rfl, _⟩ := h; rfl)
      | (obtain ⟨_, _, _, _, _, _, _, _, _, _, _, _, rfl, _⟩ := h; rfl)
      | (obtain ⟨_, _, _, _, _, _, _, _, _, _, _, _, _, rfl, _⟩ := h; rfl)
      | (obtain ⟨_, _, _, _, _, _, _, _, _, _, _, _, _, _, rfl, _⟩ := h; rfl)
      | (obtain ⟨_, _, _, _, _, _, _, _, _, _, _, _, _, _, _, rfl, _⟩ := h; rfl)
      | (obtain ⟨_, _, _, _, _, _, _, _, _, _, _, _, _, _, _, _, rfl, _⟩ := h; rfl)
      | (obtain ⟨_, _, _, _, _, _, _, _, _, _, _, _, _, _, _, _, _, rfl, _⟩ := h; rfl)
      | (obtain ⟨_, _, _, _, _, _, _, _, _, _, _, _, _, _, _, _, _, _, rfl, _⟩ := h; rfl)
      | (obtain ⟨_, _, _, _, _, _, _, _, _, _, _, _, _, _, _, _, _, _, _, rfl, _⟩ := h; rfl)
  · obtain ⟨t, ps, ever, liv, ks, nb, v, d, rfl, ⟨lv, nd, dx, rep, x, rfl, rfl⟩, hd, k⟩ := h
    obtain ⟨ht, hl, hn, hra, ad, nk⟩ := x
    have cl_Memory := T.cl_Memory
    have na_Memory_pairs := T.na_Memory_pairs
    have na_Memory_wide := T.na_Memory_wide
    have cl_Ties := T.cl_Ties
    have na_Ties_near := T.na_Ties_near
    have na_Ties_own_ever := T.na_Ties_own_ever
    have na_Ties_own_living := T.na_Ties_own_living
    have cl_Store := T.cl_Store
    have na_Store_kept_by_world := T.na_Store_kept_by_world
    have na_Store_own_size := T.na_Store_own_size
    have na_Store_own_ties := T.na_Store_own_ties
    refine ⟨_, (pss_one (ps_ret (pe_and (d1 (ok_is_count T) (hr.mono (by decide)) (by rfl) T.m_is_count T.F_is_count.kp T.b_is_count passL (pa_cons (pv 1) pa_nil)) (pe_one (pe_cmpR (k_in (K := K) rfl) (pv 1) (k_fld (K := K) rfl (pv 0) rfl) (rfl)))))), ?_⟩
    dsimp only [cxOf, st_1, st_2, st_3, st_4, st_5, st_6, List.length_cons, List.length_nil, List.replicate_succ, List.replicate_zero, Nat.reduceAdd, Nat.reduceSub]
    walk_at "gs"
    refine ⟨v, d, rfl, hd, ?_⟩
    walk_at "gs"
    refine i_bool2 (fun c => ?_) (fun c => ?_)
    · obtain ⟨n, rfl, h0⟩ := cnt_int c
      obtain rfl := hd.2 n rfl
      have hl1 : SqL K H lv (liv.map V.int) := SqL.of hl
      walk_at "gs"
      have e : inL liv (.int n) = decide (n ∈ liv) := by
        show decide (0 ≤ n ∧ n ∈ liv) = _
        by_cases c : n ∈ liv <;> simp [c, h0]
      rw [e] at k
      exact k
    · rw [inL_no c] at k
      exact k
theorem lives_int {K : PySem.W.Frag} {C : Addr} {t : Addr} {ps : List Addr} {ever n : Int} {liv ks : List Int} {nb : Int → List Int} {H : Hp} {Q : VK} {E : XK} (x : TiesAt C H t ps ever liv ks nb) (h0 : 0 ≤ n) (h : Q (.bl (decide (n ∈ liv))) H) :
    sp_tlives K C [.ref t, .int n] H Q E := ⟨t, ps, ever, liv, ks, nb, .int n, .int n, rfl, x, .int n, by
  have e : inL liv (.int n) = decide (n ∈ liv) := by
    show decide (0 ≤ n ∧ n ∈ liv) = _
    by_cases c : n ∈ liv <;> simp [c, h0]
  rw [e]
  exact h⟩

/-! ### fork -/
def setN (nb : Int → List Int) (u : Int) (l : List Int) : Int → List Int := fun v => if v = u then l else nb v
section
variable {C : Addr} {H : Hp} {t lv nd dx : Addr} {rep : List (Int × Addr)} {ever : Int} {liv : List Int} {nb nb' : Int → List Int}
theorem TiX.congr (x : TiX C H t lv nd dx rep ever liv nb) (h : ∀ p ∈ rep, nb p.1 = nb' p.1) : TiX C H t lv nd dx rep ever liv nb' :=
  ⟨x.ht, x.hl, x.hn, fun p hp => by rw [← h p hp]; exact x.hr p hp, x.ad, x.nk⟩
theorem rep_fun {rep : List (Int × Addr)} (nk : (rep.map (·.1)).Nodup) {u : Int} {a b : Addr} (h : (u, a) ∈ rep) (k : (u, b) ∈ rep) : a = b := by
  have e1 := val_rep nk h
  have e2 := val_rep nk k
  rw [e1] at e2
  injection e2 with e2
  injection e2
theorem rep_inj {rep : List (Int × Addr)} (nk : (rep.map (·.2)).Nodup) {u v : Int} {a : Addr} (h : (u, a) ∈ rep) (k : (v, a) ∈ rep) : u = v := by
  induction rep with
  | nil => cases h
  | cons p rep ih =>
    rw [List.map_cons, List.nodup_cons] at nk
    rcases List.mem_cons.mp h with e | h
    · rcases List.mem_cons.mp k with e2 | k
      · rw [← e] at e2
        injection e2 with e2
        exact e2.symm
      · exact absurd (List.mem_map.mpr ⟨_, k, by rw [← e]⟩) nk.1
    · rcases List.mem_cons.mp k with e2 | k
      · exact absurd (List.mem_map.mpr ⟨_, h, by rw [← e2]⟩) nk.1
      · exact ih nk.2 h k
theorem TiX.parts (x : TiX C H t lv nd dx rep ever liv nb) : t ≠ lv ∧ t ≠ nd ∧ lv ≠ nd ∧ (rep.map (·.2)).Nodup ∧ ∀ p ∈ rep, p.2 ≠ t ∧ p.2 ≠ lv ∧ p.2 ≠ nd := by
  have h := x.ad
  simp only [List.nodup_cons, List.mem_cons, not_or] at h
  obtain ⟨⟨a, b, c⟩, ⟨d, e⟩, f, g⟩ := h
  exact ⟨a, b, d, g, fun p hp => ⟨fun z => c (List.mem_map.mpr ⟨p, hp, z⟩), fun z => e (List.mem_map.mpr ⟨p, hp, z⟩), fun z => f (List.mem_map.mpr ⟨p, hp, z⟩)⟩⟩
/-- what hangs at u is written anew -/
theorem TiX.put (x : TiX C H t lv nd dx rep ever liv nb) {u : Int} {a : Addr} (h : (u, a) ∈ rep) (l : List Int) : TiX C (upd H a (.lst (l.map V.int))) t lv nd dx rep ever liv (setN nb u l) := by
  obtain ⟨_, _, _, n4, n5⟩ := x.parts
  obtain ⟨m1, m2, m3⟩ := n5 _ h
  refine ⟨by rw [upd_ne (Ne.symm m1)]; exact x.ht, by rw [upd_ne (Ne.symm m2)]; exact x.hl, by rw [upd_ne (Ne.symm m3)]; exact x.hn, fun p hp => ?_, x.ad, x.nk⟩
  unfold setN
  by_cases c : p.1 = u
  · have e : p.2 = a := rep_fun x.nk (u := u) (by rw [← c]; exact hp) h
    rw [if_pos c, e]
    exact upd_same
  · have e : p.2 ≠ a := fun e => c (rep_inj n4 (a := a) (by rw [← e]; exact hp) h)
    rw [if_neg c, upd_ne e]
    exact x.hr p hp
theorem TiX.mem (x : TiX C H t lv nd dx rep ever liv nb) {u : Int} (h : u ∈ rep.map (·.1)) : ∃ a, (u, a) ∈ rep ∧ H a = some (.lst ((nb u).map V.int)) := by
  obtain ⟨p, hp, rfl⟩ := List.mem_map.mp h
  exact ⟨p.2, hp, x.hr p hp⟩
theorem TiX.toEver (x : TiX C H t lv nd dx rep ever liv nb) (e : Int) : TiX C (upd H t (.ins C dx (tfs e lv nd))) t lv nd dx rep e liv nb := by
  obtain ⟨n1, n2, n3, n4, n5⟩ := x.parts
  exact ⟨upd_same, by rw [upd_ne (Ne.symm n1)]; exact x.hl, by rw [upd_ne (Ne.symm n2)]; exact x.hn, fun p hp => by rw [upd_ne (n5 p hp).1]; exact x.hr p hp, x.ad, x.nk⟩
theorem TiX.toLiv (x : TiX C H t lv nd dx rep ever liv nb) (l : List Int) : TiX C (upd H lv (.lst (l.map V.int))) t lv nd dx rep ever l nb := by
  obtain ⟨n1, n2, n3, n4, n5⟩ := x.parts
  exact ⟨by rw [upd_ne n1]; exact x.ht, upd_same, by rw [upd_ne (Ne.symm n3)]; exact x.hn, fun p hp => by rw [upd_ne (n5 p hp).2.1]; exact x.hr p hp, x.ad, x.nk⟩
theorem snoc_int {l : List Int} {n : Int} : l.map V.int ++ [V.int n] = (l ++ [n]).map V.int := by
  rw [List.map_append]
  rfl
/-- a world comes, with a list of its own -/
theorem TiX.add (x : TiX C H t lv nd dx rep ever liv nb) {w : Int} {m : Addr} (l : List Int) (f : Fr H m) (hw : w ∉ rep.map (·.1)) :
    TiX C (upd (upd H m (.lst (l.map V.int))) nd (.dK ((rep ++ [(w, m)]).map kA))) t lv nd dx (rep ++ [(w, m)]) ever liv (setN nb w l) := by
  obtain ⟨n1, n2, n3, n4, n5⟩ := x.parts
  have m1 : t ≠ m := fr_ne x.ht f
  have m2 : lv ≠ m := fr_ne x.hl f
  have m3 : nd ≠ m := fr_ne x.hn f
  have m4 : ∀ p ∈ rep, p.2 ≠ m := fun p hp => fr_ne (x.hr p hp) f
  refine ⟨by rw [upd_ne n2, upd_ne m1]; exact x.ht, by rw [upd_ne n3, upd_ne m2]; exact x.hl, upd_same, fun p hp => ?_, ?_, ?_⟩
  · unfold setN
    rcases List.mem_append.mp hp with h | h
    · have e : p.1 ≠ w := fun e => hw (by rw [← e]; exact List.mem_map.mpr ⟨p, h, rfl⟩)
      rw [if_neg e, upd_ne (n5 p h).2.2, upd_ne (m4 p h)]
      exact x.hr p h
    · rw [List.mem_singleton.mp h, if_pos rfl, upd_ne (Ne.symm m3)]
      exact upd_same
  · have e : t :: lv :: nd :: (rep ++ [(w, m)]).map (·.2) = (t :: lv :: nd :: rep.map (·.2)) ++ [m] := by rw [List.map_append]; rfl
    rw [e]
    refine List.nodup_append.mpr ⟨x.ad, by simp, fun b hb c hc q => ?_⟩
    rw [List.mem_singleton.mp hc] at q
    obtain ⟨u, eu⟩ := x.known b hb
    rw [q, f.e] at eu
    cases eu
  · rw [List.map_append]
    refine List.nodup_append.mpr ⟨x.nk, by simp, fun b hb c hc q => hw ?_⟩
    have hc := List.mem_singleton.mp hc
    have q2 : b = w := q.trans hc
    rw [← q2]
    exact hb
end


def sp_tfork (C : Addr) : Sp := fun vs H Q _ => ∃ (D : Int → Int → Int) (t : Addr) (ps : List Addr) (ever : Int) (liv ks : List Int) (nb : Int → List Int) (w : Int), vs = [.ref t, .int w] ∧ TiesAt C H t ps ever liv ks nb ∧ Tr3 D ever liv ks nb ∧ ever ≤ 200 ∧ w ∈ liv ∧
  ∀ ps' H', Kp ps H H' → Grow H ps ps' → TiesAt C H' t ps' (ever + 1) (liv ++ [ever]) (ks ++ [ever]) (forkN nb ever w) → Tr3 (Dk D ever w) (ever + 1) (liv ++ [ever]) (ks ++ [ever]) (forkN nb ever w) → Q (.int ever) H'
theorem sc_Ties_fork : FnScope ["self", "world", "found"] ["self", "world"] (defScope s_Ties_fork) :=
  ⟨rfl, rfl, rfl, by decide +kernel, rfl, by decide +kernel, by decide +kernel⟩
theorem ok_Ties_fork {P : Program} {w : World} {K : PySem.W.Frag} {mg : Str → Option Value} {base : Heap} (T : Txt K mg) :
    FnG P w K mg base 3 T.a_Ties_fork T.d_Ties_fork ["self", "world"] (sp_tfork T.c_Ties) := by
  refine okD T.F_Ties_fork sc_Ties_fork (fun vs H Q E h => ?_) (fun cdv A outer s H vs Q E hr h => ?_)
  · first
      | (obtain ⟨_, rfl, _⟩ := h; rfl)
      | (obtain ⟨_, _, rfl, _⟩ := h; rfl)
      | (obtain ⟨_, _, _, rfl, _⟩ := h; rfl)
      | (obtain ⟨_, _, _, _, rfl, _⟩ := h; rfl)
      | (obtain ⟨_, _, _, _, _, rfl, _⟩ := h; rfl)
      | (obtain ⟨_, _, _, _, _, _, rfl, _⟩ := h; rfl)
      | (obtain ⟨_, _, _, _, _, _, _, rfl, _⟩ := h; rfl)
      | (obtain ⟨_, _, _, _, _, _, _, _, rfl, _⟩ := h; rfl)
      | (obtain ⟨_, _, _, _, _, _, _, _, _, rfl, _⟩ := h; rfl)
      | (obtain ⟨_, _, _, _, _, _, _, _, _, _, rfl, _⟩ := h; rfl)
      | (obtain ⟨_, _, _, _, _, _, _, _, _, _, _, rfl, _⟩ := h; rfl)
      | (obtain ⟨_, _, _, _, _, _, _, _, _, _, _, _, rfl, _⟩ := h; rfl)
      | (obtain ⟨_, _, _, _, _, _, _, _, _, _, _, _, _, rfl, _⟩ := h; rfl)
      | (obtain ⟨_, _, _, _, _, _, _, _, _, _, _, _, _, _, rfl, _⟩ := h; rfl)
      | (obtain ⟨_, _, _, _, _, _, _, _, _, _, _, _, _, _, _, rfl, _⟩ := h; rfl)
      | (obtain ⟨_, _, _, _, _, _, _, _, _, _, _, _, _, _, _, _, rfl, _⟩ := h; rfl)
      | (obtain ⟨_, _, _, _, _, _, _, _, _, _, _, _, _, _, _, _, _, rfl, _⟩ := h; rfl)
      | (obtain ⟨_, _, _, _, _, _, _, _, _, _, _, _, _, _, _, _, _, _, rfl, _⟩ := h; rfl)
      | (obtain ⟨_, _, _, _, _, _, _, _, _, _, _, _, _, _, _, _, _, _, _, rfl, _⟩ := h; rfl)
  · obtain ⟨D, t, ps, ever, liv, ks, nb, w, rfl, x0, z, he, hw, k⟩ := h
    obtain ⟨lv, nd, dx, rep, x, rfl, rfl⟩ := id x0
    have hwk := z.sub w hw
    obtain ⟨hw0, hwe⟩ := z.hU w hwk
    have lk := z.klen
    have ll := z.llen
    have ln := z.nlen hwk
    rw [List.length_map] at lk
    obtain ⟨ntl, ntd, nld, nrp, nap⟩ := x.parts
    obtain ⟨a, ha, haw⟩ := x.mem hwk
    obtain ⟨nat, nal, nad⟩ := nap _ ha
    have nat : a ≠ t := nat
    have nal : a ≠ lv := nal
    have nad : a ≠ nd := nad
    obtain ⟨ht, hl, hn, hra, ad, nk⟩ := id x
    have hek : ever ∉ rep.map (·.1) := fun c => by
      have := (z.hU ever c).2
      omega
    have hlen : (rep.map kA).length ≤ 1000000 := by rw [List.length_map]; omega
    have cl_Memory := T.cl_Memory
    have na_Memory_pairs := T.na_Memory_pairs
    have na_Memory_wide := T.na_Memory_wide
    have cl_Ties := T.cl_Ties
    have na_Ties_near := T.na_Ties_near
    have na_Ties_own_ever := T.na_Ties_own_ever
    have na_Ties_own_living := T.na_Ties_own_living
    have cl_Store := T.cl_Store
    have na_Store_kept_by_world := T.na_Store_kept_by_world
    have na_Store_own_size := T.na_Store_own_size
    have na_Store_own_ties := T.na_Store_own_ties
    refine ⟨_, (pss_cons (ps_if (pt_not (pt_val (dm T.cl_Ties T.me_Ties_lives (ok_Ties_lives T) (hr.mono (by decide)) T.b_Ties_lives passL (pv 0) (pa_cons (pv 1) pa_nil)))) (pss_one ps_never) pss_nil)
      (pss_cons (ps_set (i := 2) sc_Ties_fork.nd rfl (Or.inl rfl) (k_fld (K := K) rfl (pv 0) rfl))
      (pss_cons (k_fldaug (K := K) rfl (pv 0) pe_int ip_add)
      (pss_cons (ps_expr (pe_bm PySem.F.plainAttrs_list PySem.F.slot_list_append PySem.F.type_list_append mt_append (k_fld (K := K) rfl (pv 0) rfl) (pa_cons (pv 2) pa_nil)))
      (pss_cons (ps_asg (pe_lst (pa_cons (pv 1) pa_nil)) (pg_sub (k_fld (K := K) rfl (pv 0) rfl) (pv 2) (set_dict (u1 hr.r.units))))
      (pss_cons (ps_expr (pe_bm PySem.F.plainAttrs_list PySem.F.slot_list_append PySem.F.type_list_append mt_append (pe_dget (u1 hr.r.units) (k_fld (K := K) rfl (pv 0) rfl) (pv 1) (fun _ _ => rfl)) (pa_cons (pv 2) pa_nil)))
      (pss_one (ps_ret (pv 2))))))))), ?_⟩
    dsimp only [cxOf, st_1, st_2, st_3, st_4, st_5, st_6, List.length_cons, List.length_nil, List.replicate_succ, List.replicate_zero, Nat.reduceAdd, Nat.reduceSub]
    walk_at "gs"
    refine lives_int x0 hw0 ?_
    rw [decide_eq_true hw]
    walk_at "gs"
    refine ⟨dx, tfs ever lv nd, ht, by show 3 < 1000; decide, ?_⟩
    have x1 := x.toEver (ever + 1)
    have hl1 := x1.hl
    have ht1 := x1.ht
    show tSeq _ _ _ _ (upd H t (.ins T.c_Ties dx (tfs (ever + 1) lv nd)))
    walk_at "gs"
    refine i_app hl1 (small_sz (by rw [List.length_map]; omega)) ?_
    rw [snoc_int]
    have x2 := x1.toLiv (liv ++ [ever])
    have ht2 := x2.ht
    have hn2 := x2.hn
    walk_at "gs"
    refine i_new fun m fm => ?_
    have kpA : Kp (t :: lv :: nd :: rep.map (·.2)) H (upd (upd H t (.ins T.c_Ties dx (tfs (ever + 1) lv nd))) lv (.lst ((liv ++ [ever]).map V.int))) := Kp.trans (Kp.mut ht (fun z => z) List.mem_cons_self) (Kp.mut hl1 (fun z => z) (List.mem_cons_of_mem _ List.mem_cons_self))
    have fm0 : Fr H m := kpA.free fm
    have x3 := x2.add [w] fm hek
    have hn2' := fr_ne hn2 fm
    have ht2' := fr_ne ht2 fm
    walk_at "gs"
    refine i_setK (by rw [upd_ne hn2']; exact hn2) hlen ?_
    rw [put_new hek]
    have ht3 := x3.ht
    have hn3 := x3.hn
    walk_at "gs"
    refine i_dg hn3 (val_rep x3.nk (List.mem_append.mpr (.inl ha))) ?_
    have ha3 := x3.hr (w, a) (List.mem_append.mpr (.inl ha))
    have e3 : setN nb ever [w] w = nb w := if_neg (by omega)
    rw [show setN nb ever [w] (w, a).1 = nb w from e3] at ha3
    have ha3 : _ = _ := ha3
    walk_at "gs"
    refine i_app ha3 (small_sz (by rw [List.length_map]; omega)) ?_
    rw [snoc_int]
    have x4 := x3.put (List.mem_append.mpr (.inl ha)) (nb w ++ [ever])
    walk_at "gs"
    refine k (t :: lv :: nd :: (rep ++ [(ever, m)]).map (·.2)) _ ?_ ?_ ⟨lv, nd, dx, _, x4.congr fun p hp => ?_, rfl, by rw [List.map_append]; rfl⟩ (z.fork hwk)
    · refine Kp.trans (Kp.upd (o := .lst [V.int w]) kpA fm0) ?_
      refine Kp.trans (Kp.mut (u := .dK (rep.map kA)) (by rw [upd_ne hn2']; exact hn2) (fun z => z) (by simp)) (Kp.mut ha3 (fun z => z) ?_)
      exact List.mem_cons_of_mem _ (List.mem_cons_of_mem _ (List.mem_cons_of_mem _ (List.mem_map.mpr ⟨_, ha, rfl⟩)))
    · intro b hb
      rw [List.map_append] at hb
      rcases List.mem_append.mp (show b ∈ (t :: lv :: nd :: rep.map (·.2)) ++ [m] from hb) with h | h
      · exact .inl h
      · rw [List.mem_singleton.mp h]
        exact .inr fm0
    · unfold setN forkN
      by_cases c : p.1 = ever
      · rw [if_pos c, if_neg (by omega), if_pos c]
      · rw [if_neg c, if_neg c]
        by_cases c2 : p.1 = w
        · rw [if_pos c2, if_pos c2, c2]
        · rw [if_neg c2, if_neg c2]


/-! ### ends -/
def sp_tmay (K : PySem.W.Frag) (C : Addr) : Sp := fun vs H Q _ => ∃ (t : Addr) (ps : List Addr) (ever : Int) (liv ks : List Int) (nb : Int → List Int) (w : Int), vs = [.ref t, .int w] ∧ TiesAt C H t ps ever liv ks nb ∧ Q (.bl (decide (w ∈ ks ∧ w ∉ liv ∧ (nb w).length < 3))) H
theorem sc_Ties_may_go : FnScope ["self", "world"] ["self", "world"] (defScope s_Ties_may_go) :=
  ⟨rfl, rfl, rfl, by decide +kernel, rfl, by decide +kernel, by decide +kernel⟩
theorem ok_Ties_may_go {P : Program} {w : World} {K : PySem.W.Frag} {mg : Str → Option Value} {base : Heap} (T : Txt K mg) :
    FnG P w K mg base 1 T.a_Ties_may_go T.d_Ties_may_go ["self", "world"] (sp_tmay K T.c_Ties) := by
  refine okD T.F_Ties_may_go sc_Ties_may_go (fun vs H Q E h => ?_) (fun cdv A outer s H vs Q E hr h => ?_)
  · first
      | (obtain ⟨_, rfl, _⟩ := h; rfl)
      | (obtain ⟨_, _, rfl, _⟩ := h; rfl)
      | (obtain ⟨_, _, _, rfl, _⟩ := h; rfl)
      | (obtain ⟨_, _, _, _, rfl, _⟩ := h; rfl)
      | (obtain ⟨_, _, _, _, _, rfl, _⟩ := h; rfl)
      | (obtain ⟨_, _, _, _, _, _, rfl, _⟩ := h; rfl)
      | (obtain ⟨_, _, _, _, _, _, _, rfl, _⟩ := h; rfl)
      | (obtain ⟨_, _, _, _, _, _, _, _, rfl, _⟩ := h; rfl)
      | (obtain ⟨_, _, _, _, _, _, _, _, _, rfl, _⟩ := h; rfl)
      | (obtain ⟨_, _, _, _, _, _, _, _, _, _, rfl, _⟩ := h; rfl)
      | (obtain ⟨_, _, _, _, _, _, _, _, _, _, _, rfl, _⟩ := h; rfl)
      | (obtain ⟨_, _, _, _, _, _, _, _, _, _, _, _, rfl, _⟩ := h; rfl)
      | (obtain ⟨_, _, _, _, _, _, _, _, _, _, _, _, _, rfl, _⟩ := h; rfl)
      | (obtain ⟨_, _, _, _, _, _, _, _, _, _, _, _, _, _, rfl, _⟩ := h; rfl)
      | (obtain ⟨_, _, _, _, _, _, _, _, _, _, _, _, _, _, _, rfl, _⟩ := h; rfl)
      | (obtain ⟨_, _, _, _, _, _, _, _, _, _, _, _, _, _, _, _, rfl, _⟩ := h; rfl)
      | (obtain ⟨_, _, _, _, _, _, _, _, _, _, _, _, _, _, _, _, _, rfl, _⟩ := h; rfl)
      | (obtain ⟨_, _, _, _, _, _, _, _, _, _, _, _, _, _, _, _, _, _, rfl, _⟩ := h; rfl)
      | (obtain ⟨_, _, _, _, _, _, _, _, _, _, _, _, _, _, _, _, _, _, _, rfl, _⟩ := h; rfl)
  · obtain ⟨t, ps, ever, liv, ks, nb, w, rfl, ⟨lv, nd, dx, rep, x, rfl, rfl⟩, k⟩ := h
    obtain ⟨ht, hl, hn, hra, ad, nk⟩ := id x
    have hl1 : SqL K H lv (liv.map V.int) := SqL.of hl
    have cl_Memory := T.cl_Memory
    have na_Memory_pairs := T.na_Memory_pairs
    have na_Memory_wide := T.na_Memory_wide
    have cl_Ties := T.cl_Ties
    have na_Ties_near := T.na_Ties_near
    have na_Ties_own_ever := T.na_Ties_own_ever
    have na_Ties_own_living := T.na_Ties_own_living
    have cl_Store := T.cl_Store
    have na_Store_kept_by_world := T.na_Store_kept_by_world
    have na_Store_own_size := T.na_Store_own_size
    have na_Store_own_ties := T.na_Store_own_ties
    refine ⟨_, (pss_one (ps_ret (pe_and (pe_cmp (pc_din (u1 hr.r.units) (pv 1) (k_fld (K := K) rfl (pv 0) rfl))) (pe_and (pe_cmpR (k_nin (K := K) rfl) (pv 1) (k_fld (K := K) rfl (pv 0) rfl) (rfl)) (pe_one (pe_cmpR op_lt (pe_callB (k_len (K := K) rfl) (by rfl) T.n_len (by decide +kernel) (pa_cons (pe_dget (u1 hr.r.units) (k_fld (K := K) rfl (pv 0) rfl) (pv 1) (fun _ _ => rfl)) pa_nil)) (pe_glob (v := V.int 3) rfl T.g_FEWEST_TIES ⟨_, rfl⟩) (nomark _))))))), ?_⟩
    dsimp only [cxOf, st_1, st_2, st_3, st_4, st_5, st_6, List.length_cons, List.length_nil, List.replicate_succ, List.replicate_zero, Nat.reduceAdd, Nat.reduceSub]
    walk_at "gs"
    rw [val_in nk]
    refine i_dec (fun c => ?_) (fun c => ?_)
    · walk_at "gs"
      refine i_decN (fun c2 => ?_) (fun c2 => ?_)
      · obtain ⟨a, ha, haw⟩ := x.mem c
        walk_at "gs"
        refine i_dg hn (val_rep nk ha) ?_
        have hla : SqL K H a ((nb w).map V.int) := SqL.of haw
        walk_at "gs"
        rw [List.length_map]
        have e : decide (w ∈ rep.map (·.1) ∧ w ∉ liv ∧ (nb w).length < 3) = decide (((nb w).length : Int) < 3) := decide_eq_decide.mpr ⟨fun z => by omega, fun z => ⟨c, c2, by omega⟩⟩
        rw [e] at k
        exact k
      · rw [decide_eq_false (fun z => z.2.1 c2)] at k
        have e : (!decide (w ∈ liv)) = false := by simp [c2]
        first | exact k | (rw [e]; exact k)
    · rw [decide_eq_false (fun z => c z.1)] at k
      first | exact k | (rw [decide_eq_false c]; exact k)
section
variable {C : Addr} {H : Hp} {t lv nd dx : Addr} {rep : List (Int × Addr)} {ever : Int} {liv : List Int} {nb nb' : Int → List Int}
theorem TiX.drop (x : TiX C H t lv nd dx rep ever liv nb) (w : Int) : TiX C (upd H nd (.dK ((rep.filter fun p => decide (p.1 ≠ w)).map kA))) t lv nd dx (rep.filter fun p => decide (p.1 ≠ w)) ever liv nb := by
  obtain ⟨n1, n2, n3, n4, n5⟩ := x.parts
  refine ⟨by rw [upd_ne n2]; exact x.ht, by rw [upd_ne n3]; exact x.hl, upd_same, fun p hp => ?_, ?_, ?_⟩
  · have h := (List.mem_filter.mp hp).1
    rw [upd_ne (n5 p h).2.2]
    exact x.hr p h
  · exact x.ad.sublist (.cons_cons _ (.cons_cons _ (.cons_cons _ (List.filter_sublist.map _))))
  · exact x.nk.sublist (List.filter_sublist.map _)
theorem cut_two {nb : Int → List Int} {w p q u : Int} (h : nb w = [p, q]) : cutN nb w u = if u = p then (nb u).erase w ++ [q] else if u = q then (nb u).erase w ++ [p] else (nb u).erase w := by
  unfold cutN
  rw [h]
end
def sp_ttaken (C : Addr) : Sp := fun vs H Q _ => ∃ (t : Addr) (ps : List Addr) (ever : Int) (liv ks : List Int) (nb : Int → List Int) (w : Int), vs = [.ref t, .int w] ∧ TiesAt C H t ps ever liv ks nb ∧ w ∈ ks ∧ (∀ u ∈ nb w, u ∈ ks ∧ u ≠ w ∧ w ∈ nb u) ∧ (∀ u ∈ ks, w ∈ nb u → u ∈ nb w) ∧ (nb w).Nodup ∧ (∀ u ∈ ks, (nb u).length ≤ 200) ∧
  ∀ a ps' H', Kp ps H H' → (∀ b ∈ ps', b ∈ ps) → a ∈ ps → a ∉ ps' → TiesAt C H' t ps' ever liv (ks.erase w) (cutN nb w) → H' a = some (.lst ((nb w).map V.int)) → Q (.ref a) H'
theorem sc_Ties_taken_out : FnScope ["self", "world", "others", "other"] ["self", "world"] (defScope s_Ties_taken_out) :=
  ⟨rfl, rfl, rfl, by decide +kernel, rfl, by decide +kernel, by decide +kernel⟩
theorem ok_Ties_taken_out {P : Program} {w : World} {K : PySem.W.Frag} {mg : Str → Option Value} {base : Heap} (T : Txt K mg) :
    FnG P w K mg base 1 T.a_Ties_taken_out T.d_Ties_taken_out ["self", "world"] (sp_ttaken T.c_Ties) := by
  refine okD T.F_Ties_taken_out sc_Ties_taken_out (fun vs H Q E h => ?_) (fun cdv A outer s H vs Q E hr h => ?_)
  · first
      | (obtain ⟨_, rfl, _⟩ := h; rfl)
      | (obtain ⟨_, _, rfl, _⟩ := h; rfl)
      | (obtain ⟨_, _, _, rfl, _⟩ := h; rfl)
      | (obtain ⟨_, _, _, _, rfl, _⟩ := h; rfl)
      | (obtain ⟨_, _, _, _, _, rfl, _⟩ := h; rfl)
      | (obtain ⟨_, _, _, _, _, _, rfl, _⟩ := h; rfl)
      | (obtain ⟨_, _, _, _, _, _, _, rfl, _⟩ := h; rfl)
      | (obtain ⟨_, _, _, _, _, _, _, _, rfl, _⟩ := h; rfl)
      | (obtain ⟨_, _, _, _, _, _, _, _, _, rfl, _⟩ := h; rfl)
      | (obtain ⟨_, _, _, _, _, _, _, _, _, _, rfl, _⟩ := h; rfl)
      | (obtain ⟨_, _, _, _, _, _, _, _, _, _, _, rfl, _⟩ := h; rfl)
      | (obtain ⟨_, _, _, _, _, _, _, _, _, _, _, _, rfl, _⟩ := h; rfl)
      | (obtain ⟨_, _, _, _, _, _, _, _, _, _, _, _, _, rfl, _⟩ := h; rfl)
      | (obtain ⟨_, _, _, _, _, _, _, _, _, _, _, _, _, _, rfl, _⟩ := h; rfl)
      | (obtain ⟨_, _, _, _, _, _, _, _, _, _, _, _, _, _, _, rfl, _⟩ := h; rfl)
      | (obtain ⟨_, _, _, _, _, _, _, _, _, _, _, _, _, _, _, _, rfl, _⟩ := h; rfl)
      | (obtain ⟨_, _, _, _, _, _, _, _, _, _, _, _, _, _, _, _, _, rfl, _⟩ := h; rfl)
      | (obtain ⟨_, _, _, _, _, _, _, _, _, _, _, _, _, _, _, _, _, _, rfl, _⟩ := h; rfl)
      | (obtain ⟨_, _, _, _, _, _, _, _, _, _, _, _, _, _, _, _, _, _, _, rfl, _⟩ := h; rfl)
  · obtain ⟨t, ps, ever, liv, ks, nb, w, rfl, ⟨lv, nd, dx, rep, x, rfl, rfl⟩, hw, hnb, hsy, nnw, hle, k⟩ := h
    obtain ⟨a, ha, haw⟩ := x.mem hw
    obtain ⟨ntl, ntd, nld, nrp, nap⟩ := x.parts
    obtain ⟨nat, nal, nad⟩ := nap _ ha
    have nat : a ≠ t := nat
    have nal : a ≠ lv := nal
    have nad : a ≠ nd := nad
    obtain ⟨ht, hl, hn, hra, ad, nk⟩ := id x
    have cl_Memory := T.cl_Memory
    have na_Memory_pairs := T.na_Memory_pairs
    have na_Memory_wide := T.na_Memory_wide
    have cl_Ties := T.cl_Ties
    have na_Ties_near := T.na_Ties_near
    have na_Ties_own_ever := T.na_Ties_own_ever
    have na_Ties_own_living := T.na_Ties_own_living
    have cl_Store := T.cl_Store
    have na_Store_kept_by_world := T.na_Store_kept_by_world
    have na_Store_own_size := T.na_Store_own_size
    have na_Store_own_ties := T.na_Store_own_ties
    refine ⟨_, (pss_cons (ps_set (i := 2) sc_Ties_taken_out.nd rfl (Or.inl rfl) (pe_dpop1 (k_fld (K := K) rfl (pv 0) rfl) (pv 1) ⟨rfl, rfl, rfl, rfl⟩))
      (pss_cons (ps_for (passes_of rfl) rfl (k_plist (K := K) rfl (pv 2)) (pg_name (i := 3) sc_Ties_taken_out.nd rfl (Or.inl rfl))
      (pss_one (ps_expr (pe_bm PySem.F.plainAttrs_list PySem.F.slot_list_remove PySem.F.type_list_remove mt_remove (pe_dget (u1 hr.r.units) (k_fld (K := K) rfl (pv 0) rfl) (pv 3) (fun _ _ => rfl)) (pa_cons (pv 1) pa_nil)))))
      (pss_cons (ps_if (pt_cmpR (k_eq (K := K) rfl hr.r.units) (pe_callB (k_len (K := K) rfl) (by rfl) T.n_len (by decide +kernel) (pa_cons (pv 2) pa_nil)) pe_int (nomark _)) (pss_cons (ps_expr (pe_bm PySem.F.plainAttrs_list PySem.F.slot_list_append PySem.F.type_list_append mt_append (pe_dget (u1 hr.r.units) (k_fld (K := K) rfl (pv 0) rfl) (pe_ix (k_ix (K := K) rfl) (pv 2) pe_int (fun _ _ => rfl)) (fun _ _ => rfl)) (pa_cons (pe_ix (k_ix (K := K) rfl) (pv 2) pe_int (fun _ _ => rfl)) pa_nil)))
      (pss_one (ps_expr (pe_bm PySem.F.plainAttrs_list PySem.F.slot_list_append PySem.F.type_list_append mt_append (pe_dget (u1 hr.r.units) (k_fld (K := K) rfl (pv 0) rfl) (pe_ix (k_ix (K := K) rfl) (pv 2) pe_int (fun _ _ => rfl)) (fun _ _ => rfl)) (pa_cons (pe_ix (k_ix (K := K) rfl) (pv 2) pe_int (fun _ _ => rfl)) pa_nil))))) pss_nil)
      (pss_one (ps_ret (pv 2)))))), ?_⟩
    dsimp only [cxOf, st_1, st_2, st_3, st_4, st_5, st_6, List.length_cons, List.length_nil, List.replicate_succ, List.replicate_zero, Nat.reduceAdd, Nat.reduceSub]
    walk_at "gs"
    refine i_dp2 hn (val_rep nk ha) ?_
    rw [drop_rep]
    obtain ⟨rp, erp⟩ : ∃ rp, rp = rep.filter fun p => decide (p.1 ≠ w) := ⟨_, rfl⟩
    have x1 := x.drop w
    rw [← erp] at x1 ⊢
    have mrp : ∀ p, p ∈ rp ↔ p ∈ rep ∧ p.1 ≠ w := fun p => by rw [erp, List.mem_filter, decide_eq_true_eq]
    have k1 : Kp (t :: lv :: nd :: rep.map (·.2)) H (upd H nd (.dK (rp.map kA))) := Kp.mut hn (fun z => z) (by simp)
    have ha1 : (upd H nd (.dK (rp.map kA))) a = some (.lst ((nb w).map V.int)) := by rw [upd_ne nad]; exact haw
    have inrep : ∀ u ∈ nb w, ∃ b, (u, b) ∈ rp ∧ b ≠ a ∧ b ∈ rep.map (·.2) := fun u hu => by
      obtain ⟨h1, h2, h3⟩ := hnb u hu
      obtain ⟨b, hb, _⟩ := x.mem h1
      exact ⟨b, (mrp _).mpr ⟨hb, h2⟩, fun e => h2 (rep_inj nrp (a := a) (by rw [← e]; exact hb) ha), List.mem_map.mpr ⟨_, hb, rfl⟩⟩
    walk_at "gs"
    refine i_each (SqL.of ha1) (fun i σ H' => ∃ o : Option V, σ = [some (.ref t), some (.int w), some (.ref a), o] ∧ Kp (t :: lv :: nd :: rep.map (·.2)) H H' ∧ H' a = some (.lst ((nb w).map V.int)) ∧
      TiX T.c_Ties H' t lv nd dx rp ever liv (fun u => if u ∈ (nb w).take i then (nb u).erase w else nb u)) ?_ ?_ ?_ ?_
    · exact ⟨_, rfl, k1, ha1, x1.congr fun p _ => by rw [List.take_zero, if_neg List.not_mem_nil]⟩
    · rintro i σ H' _ ⟨_, _, _, h, _⟩
      exact SqL.of h
    · rintro i y σ H' hy ⟨o, rfl, k2, ha2, x2⟩
      obtain ⟨u, hu, e⟩ := map_get hy
      subst e
      have hum : u ∈ nb w := List.mem_of_getElem? hu
      obtain ⟨h1, h2, h3⟩ := hnb u hum
      obtain ⟨b, hb, nba, hbr⟩ := inrep u hum
      have ht2 := x2.ht
      have hb2 := x2.hr _ hb
      have nin : u ∉ (nb w).take i := fun z => by
        obtain ⟨j, hj⟩ := List.getElem?_of_mem z
        have jl := (List.getElem?_eq_some_iff.mp hj).1
        rw [List.length_take] at jl
        rw [List.getElem?_take_of_lt (by omega)] at hj
        have := (List.getElem?_inj (List.getElem?_eq_some_iff.mp hj).1 nnw).mp (hj.trans hu.symm)
        omega
      have hb2 : H' b = some (.lst ((nb u).map V.int)) := by
        have e : (if u ∈ (nb w).take i then (nb u).erase w else nb u) = nb u := if_neg nin
        rw [← e]
        exact hb2
      walk_at "gs"
      refine i_dg x2.hn (val_rep x2.nk hb) ?_
      walk_at "gs"
      refine i_remove hb2 h3 ?_
      walk_at "gs"
      refine ⟨_, rfl, Kp.trans k2 (Kp.mut hb2 (fun z => z) (by simp only [List.mem_cons]; exact .inr (.inr (.inr hbr)))), by rw [upd_ne (Ne.symm nba)]; exact ha2, (x2.put hb ((nb u).erase w)).congr fun p hp => ?_⟩
      show (if p.1 = u then (nb u).erase w else (if p.1 ∈ (nb w).take i then (nb p.1).erase w else nb p.1)) = if p.1 ∈ (nb w).take (i + 1) then (nb p.1).erase w else nb p.1
      rw [List.take_add_one, hu]
      by_cases c : p.1 = u
      · rw [if_pos c, c, if_pos (by simp)]
      · rw [if_neg c]
        by_cases c2 : p.1 ∈ (nb w).take i
        · rw [if_pos c2, if_pos (List.mem_append.mpr (.inl c2))]
        · rw [if_neg c2, if_neg (by simp [c, c2])]
    rintro σ H' ⟨o, rfl, k2, ha2, x2⟩
    rw [List.length_map, List.take_length] at x2
    have fin : ∀ (nb2 : Int → List Int) (H2 : Hp), Kp (t :: lv :: nd :: rep.map (·.2)) H H2 → H2 a = some (.lst ((nb w).map V.int)) → TiX T.c_Ties H2 t lv nd dx rp ever liv nb2 → (∀ p ∈ rp, nb2 p.1 = cutN nb w p.1) → Q (.ref a) H2 := fun nb2 H2 k3 h3 x3 h4 => by
      refine k a (t :: lv :: nd :: rp.map (·.2)) H2 k3 (fun b hb => ?_) (by simp only [List.mem_cons]; exact .inr (.inr (.inr (List.mem_map.mpr ⟨_, ha, rfl⟩)))) (fun z => ?_) ⟨lv, nd, dx, rp, x3.congr h4, rfl, by rw [erp, keys_drop nk]⟩ h3
      · simp only [List.mem_cons] at hb ⊢
        rcases hb with h | h | h | h
        · exact .inl h
        · exact .inr (.inl h)
        · exact .inr (.inr (.inl h))
        · obtain ⟨p, hp, e⟩ := List.mem_map.mp h
          exact .inr (.inr (.inr (List.mem_map.mpr ⟨p, ((mrp p).mp hp).1, e⟩)))
      · simp only [List.mem_cons] at z
        rcases z with h | h | h | h
        · exact nat h
        · exact nal h
        · exact nad h
        · obtain ⟨p, hp, e⟩ := List.mem_map.mp h
          obtain ⟨p1, p2⟩ := (mrp p).mp hp
          have p1 : (p.1, a) ∈ rep := by rw [← e]; exact p1
          exact p2 (rep_inj nrp p1 ha)
    have er : ∀ p ∈ rp, (if p.1 ∈ nb w then (nb p.1).erase w else nb p.1) = (nb p.1).erase w := fun p hp => by
      by_cases c : p.1 ∈ nb w
      · rw [if_pos c]
      · rw [if_neg c, List.erase_of_not_mem fun z => c (hsy p.1 (List.mem_map.mpr ⟨p, ((mrp p).mp hp).1, rfl⟩) z)]
    have ht2 := x2.ht
    have hsa : SqL K H' a ((nb w).map V.int) := SqL.of ha2
    walk_at "gs"
    rw [List.length_map]
    refine i_dec (fun c => ?_) (fun c => ?_)
    · obtain ⟨p, q, epq⟩ : ∃ p q, nb w = [p, q] := by
        match h : nb w, c with
        | [p, q], _ => exact ⟨p, q, rfl⟩
      have npq : p ≠ q := by
        rw [epq] at nnw
        simp only [List.nodup_cons, List.mem_singleton] at nnw
        exact nnw.1
      have hp : p ∈ nb w := by rw [epq]; exact List.mem_cons_self
      have hq : q ∈ nb w := by rw [epq]; exact List.mem_cons_of_mem _ List.mem_cons_self
      obtain ⟨bp, hbp, nbp, mbp⟩ := inrep p hp
      obtain ⟨bq, hbq, nbq, mbq⟩ := inrep q hq
      have lp := hle p (hnb p hp).1
      have lq := hle q (hnb q hq).1
      have cp := x2.hr _ hbp
      have cq := x2.hr _ hbq
      rw [if_pos hp] at cp
      rw [if_pos hq] at cq
      have cp : H' bp = some (.lst (((nb p).erase w).map V.int)) := cp
      have cq : H' bq = some (.lst (((nb q).erase w).map V.int)) := cq
      have l1 := List.length_erase_le (a := w) (l := nb p)
      have l2 := List.length_erase_le (a := w) (l := nb q)
      have ha3 : H' a = some (.lst [V.int p, V.int q]) := by rw [ha2, epq]; rfl
      have nbpq : bp ≠ bq := fun e => npq (rep_inj (x2.parts.2.2.2.1) (a := bp) hbp (by rw [e]; exact hbq))
      walk_at "gs"
      refine i_dg x2.hn (val_rep x2.nk hbp) ?_
      walk_at "gs"
      refine i_app cp (small_sz (by rw [List.length_map]; omega)) ?_
      rw [snoc_int]
      have x3 := x2.put hbp ((nb p).erase w ++ [q])
      have ht3 := x3.ht
      have ha4 : (upd H' bp (.lst (((nb p).erase w ++ [q]).map V.int))) a = some (.lst [V.int p, V.int q]) := by rw [upd_ne (Ne.symm nbp)]; exact ha3
      have cq2 : (upd H' bp (.lst (((nb p).erase w ++ [q]).map V.int))) bq = some (.lst (((nb q).erase w).map V.int)) := by rw [upd_ne (Ne.symm nbpq)]; exact cq
      walk_at "gs"
      refine i_dg x3.hn (val_rep x3.nk hbq) ?_
      walk_at "gs"
      refine i_app cq2 (small_sz (by rw [List.length_map]; omega)) ?_
      rw [snoc_int]
      walk_at "gs"
      refine fin _ _ (Kp.trans k2 (Kp.trans (Kp.mut cp (fun z => z) (by simp only [List.mem_cons]; exact .inr (.inr (.inr mbp)))) (Kp.mut cq2 (fun z => z) (by simp only [List.mem_cons]; exact .inr (.inr (.inr mbq)))))) (by rw [upd_ne (Ne.symm nbq), ha4, epq]; rfl) (x3.put hbq ((nb q).erase w ++ [p])) fun r hr2 => ?_
      have e := er r hr2
      rw [cut_two epq]
      show (if r.1 = q then (nb q).erase w ++ [p] else if r.1 = p then (nb p).erase w ++ [q] else if r.1 ∈ nb w then (nb r.1).erase w else nb r.1) = _
      by_cases c1 : r.1 = q
      · rw [if_pos c1, if_neg (fun z : r.1 = p => npq (z.symm.trans c1)), if_pos c1, c1]
      · rw [if_neg c1]
        by_cases c2 : r.1 = p
        · rw [if_pos c2, if_pos c2, c2]
        · rw [if_neg c2, if_neg c2, if_neg c1, e]
    · walk_at "gs"
      refine fin _ _ k2 ha2 x2 fun r hr2 => ?_
      rw [er r hr2]
      unfold cutN
      split
      · rename_i p q h
        rw [h] at c
        exact absurd rfl c
      · rfl

def sp_tend (C : Addr) : Sp := fun vs H Q _ => ∃ (D : Int → Int → Int) (t : Addr) (ps : List Addr) (ever : Int) (liv ks : List Int) (nb : Int → List Int) (w : Int), vs = [.ref t, .int w] ∧ TiesAt C H t ps ever liv ks nb ∧ Tr3 D ever liv ks nb ∧ ever ≤ 200 ∧ w ∈ liv ∧
  ∀ R went ps' ks' nb' H', Fr H R → R ∉ ps' → Kp ps H H' → Grow H ps ps' → TiesAt C H' t ps' ever (liv.erase w) ks' nb' → Tr3 D ever (liv.erase w) ks' nb' → H' R = some (.lst (went.map V.int)) → went.Pairwise (· < ·) → (ks' ++ went).Perm ks → Q (.ref R) H'
theorem sc_Ties_end : FnScope ["self", "world", "went", "waiting", "here"] ["self", "world"] (defScope s_Ties_end) :=
  ⟨rfl, rfl, rfl, by decide +kernel, rfl, by decide +kernel, by decide +kernel⟩
theorem ok_Ties_end {P : Program} {w : World} {K : PySem.W.Frag} {mg : Str → Option Value} {base : Heap} (T : Txt K mg) :
    FnG P w K mg base 3 T.a_Ties_end T.d_Ties_end ["self", "world"] (sp_tend T.c_Ties) := by
  refine okD T.F_Ties_end sc_Ties_end (fun vs H Q E h => ?_) (fun cdv A outer s H vs Q E hr h => ?_)
  · first
      | (obtain ⟨_, rfl, _⟩ := h; rfl)
      | (obtain ⟨_, _, rfl, _⟩ := h; rfl)
      | (obtain ⟨_, _, _, rfl, _⟩ := h; rfl)
      | (obtain ⟨_, _, _, _, rfl, _⟩ := h; rfl)
      | (obtain ⟨_, _, _, _, _, rfl, _⟩ := h; rfl)
      | (obtain ⟨_, _, _, _, _, _, rfl, _⟩ := h; rfl)
      | (obtain ⟨_, _, _, _, _, _, _, rfl, _⟩ := h; rfl)
      | (obtain ⟨_, _, _, _, _, _, _, _, rfl, _⟩ := h; rfl)
      | (obtain ⟨_, _, _, _, _, _, _, _, _, rfl, _⟩ := h; rfl)
      | (obtain ⟨_, _, _, _, _, _, _, _, _, _, rfl, _⟩ := h; rfl)
      | (obtain ⟨_, _, _, _, _, _, _, _, _, _, _, rfl, _⟩ := h; rfl)
      | (obtain ⟨_, _, _, _, _, _, _, _, _, _, _, _, rfl, _⟩ := h; rfl)
      | (obtain ⟨_, _, _, _, _, _, _, _, _, _, _, _, _, rfl, _⟩ := h; rfl)
      | (obtain ⟨_, _, _, _, _, _, _, _, _, _, _, _, _, _, rfl, _⟩ := h; rfl)
      | (obtain ⟨_, _, _, _, _, _, _, _, _, _, _, _, _, _, _, rfl, _⟩ := h; rfl)
      | (obtain ⟨_, _, _, _, _, _, _, _, _, _, _, _, _, _, _, _, rfl, _⟩ := h; rfl)
      | (obtain ⟨_, _, _, _, _, _, _, _, _, _, _, _, _, _, _, _, _, rfl, _⟩ := h; rfl)
      | (obtain ⟨_, _, _, _, _, _, _, _, _, _, _, _, _, _, _, _, _, _, rfl, _⟩ := h; rfl)
      | (obtain ⟨_, _, _, _, _, _, _, _, _, _, _, _, _, _, _, _, _, _, _, rfl, _⟩ := h; rfl)
  · obtain ⟨D, t, ps, ever, liv, ks, nb, w, rfl, x0, z, he, hw, k⟩ := h
    have hwk := z.sub w hw
    obtain ⟨hw0, hwe⟩ := z.hU w hwk
    have lk := z.klen
    have ll := z.llen
    obtain ⟨t', lps, hps⟩ : ∃ lv, lv ∈ ps ∧ H lv = some (.lst (liv.map V.int)) ∧ (∃ nd dx, lv ≠ t ∧ H t = some (.ins T.c_Ties dx (tfs ever lv nd))) ∧ TiesAt T.c_Ties (upd H lv (.lst ((liv.erase w).map V.int))) t ps ever (liv.erase w) ks nb := by
      obtain ⟨lv, nd, dx, rep, x, rfl, rfl⟩ := x0
      exact ⟨lv, by simp, x.hl, ⟨nd, dx, Ne.symm x.parts.1, x.ht⟩, lv, nd, dx, rep, x.toLiv _, rfl, rfl⟩
    obtain ⟨hl, ⟨nd, dx, nlt, ht⟩, x1⟩ := hps
    have cl_Memory := T.cl_Memory
    have na_Memory_pairs := T.na_Memory_pairs
    have na_Memory_wide := T.na_Memory_wide
    have cl_Ties := T.cl_Ties
    have na_Ties_near := T.na_Ties_near
    have na_Ties_own_ever := T.na_Ties_own_ever
    have na_Ties_own_living := T.na_Ties_own_living
    have cl_Store := T.cl_Store
    have na_Store_kept_by_world := T.na_Store_kept_by_world
    have na_Store_own_size := T.na_Store_own_size
    have na_Store_own_ties := T.na_Store_own_ties
    refine ⟨_, (pss_cons (ps_if (pt_not (pt_val (dm T.cl_Ties T.me_Ties_lives (ok_Ties_lives T) (hr.mono (by decide)) T.b_Ties_lives passL (pv 0) (pa_cons (pv 1) pa_nil)))) (pss_one ps_never) pss_nil)
      (pss_cons (ps_expr (pe_bm PySem.F.plainAttrs_list PySem.F.slot_list_remove PySem.F.type_list_remove mt_remove (k_fld (K := K) rfl (pv 0) rfl) (pa_cons (pv 1) pa_nil)))
      (pss_cons (ps_set (i := 2) sc_Ties_end.nd rfl (Or.inl rfl) (pe_lst pa_nil))
      (pss_cons (ps_set (i := 3) sc_Ties_end.nd rfl (Or.inl rfl) (pe_lst (pa_cons (pv 1) pa_nil)))
      (pss_cons (ps_while (passes_of rfl) (pt_cmpR (k_ne (K := K) rfl hr.r.units) (pv 3) (pe_lst pa_nil) (nomark _)) (pss_cons (ps_set (i := 4) sc_Ties_end.nd rfl (Or.inl rfl) (pe_bm0 PySem.F.plainAttrs_list PySem.F.slot_list_pop PySem.F.type_list_pop mt_pop (pv 3)))
      (pss_one (ps_if (pt_val (dm T.cl_Ties T.me_Ties_may_go (ok_Ties_may_go T) (hr.mono (by decide)) T.b_Ties_may_go passL (pv 0) (pa_cons (pv 4) pa_nil))) (pss_cons (ps_expr (pe_bm PySem.F.plainAttrs_list PySem.F.slot_list_append PySem.F.type_list_append mt_append (pv 2) (pa_cons (pv 4) pa_nil)))
      (pss_one (ps_expr (pe_bm PySem.F.plainAttrs_list PySem.F.slot_list_extend PySem.F.type_list_extend mt_extend (pv 3) (pa_cons (dm T.cl_Ties T.me_Ties_taken_out (ok_Ties_taken_out T) (hr.mono (by decide)) T.b_Ties_taken_out passL (pv 0) (pa_cons (pv 4) pa_nil)) pa_nil))))) pss_nil))))
      (pss_one (ps_ret (pe_callB (k_sorted (K := K) rfl) (by rfl) T.n_sorted (by decide +kernel) (pa_cons (pv 2) pa_nil))))))))), ?_⟩
    dsimp only [cxOf, st_1, st_2, st_3, st_4, st_5, st_6, List.length_cons, List.length_nil, List.replicate_succ, List.replicate_zero, Nat.reduceAdd, Nat.reduceSub]
    walk_at "gs"
    refine lives_int x0 hw0 ?_
    rw [decide_eq_true hw]
    walk_at "gs"
    refine i_remove hl hw ?_
    have k1 : Kp ps H (upd H t' (.lst ((liv.erase w).map V.int))) := Kp.mut hl (fun z => z) lps
    walk_at "gs"
    refine i_new fun G fG => ?_
    walk_at "gs"
    have fG0 : Fr H G := k1.free fG
    have kG := Kp.upd (o := .lst []) k1 fG0
    refine i_new fun Wa fWa => ?_
    have fWa0 : Fr H Wa := kG.free fWa
    have kW := Kp.upd (o := .lst [V.int w]) kG fWa0
    have nGW : G ≠ Wa := fr_ne upd_same fWa
    walk_at "gs"
    have nG : G ∉ ps := x0.fr fG0
    have nW : Wa ∉ ps := x0.fr fWa0
    refine i_while (fun m σ H' => ∃ (o : Option V) (ks1 : List Int) (nb1 : Int → List Int) (went wait : List Int) (ps1 : List Addr), m = 3 * ks1.length + wait.length ∧ σ = [some (.ref t), some (.int w), some (.ref G), some (.ref Wa), o] ∧
      Kp ps H H' ∧ TiesAt T.c_Ties H' t ps1 ever (liv.erase w) ks1 nb1 ∧ (∀ b ∈ ps1, b ∈ ps) ∧ H' G = some (.lst (went.map V.int)) ∧ H' Wa = some (.lst (wait.map V.int)) ∧ Going D ever (liv.erase w) ks ks1 nb1 went wait) (3 * ks.length + 1) ?_ ?_
    · refine ⟨_, ks, nb, [], [w], ps, rfl, rfl, kW, ?_, fun _ h => h, by rw [upd_ne nGW]; exact upd_same, upd_same, z.going⟩
      exact x1.kp0 (Kp.trans (Kp.new fG) (Kp.new fWa))
    rintro m σ H2 ⟨o, ks1, nb1, went, wait, ps1, rfl, rfl, k2, x2, sub2, hG2, hW2, g2⟩
    have nG1 : G ∉ ps1 := fun h => nG (sub2 _ h)
    have nW1 : Wa ∉ ps1 := fun h => nW (sub2 _ h)
    have wl := g2.wl
    have pl := g2.pm.length_eq
    rw [List.length_append] at pl
    walk_at "gs"
    refine i_new fun q fq => ?_
    have kq : Kp [] H2 (upd H2 q (.lst [])) := Kp.new fq
    have hW3 := kq.at_ _ _ hW2 not_nil
    have hG3 := kq.at_ _ _ hG2 not_nil
    walk_at "gs"
    refine ne_ints0 (SqL.of hW3) upd_same ?_
    walk_at "gs"
    refine i_decN (fun c => ?_) (fun c => ?_)
    · refine i_loop ?_
      obtain ⟨ws, y, rfl⟩ : ∃ ws y, wait = ws ++ [y] := ⟨_, _, (List.dropLast_concat_getLast c).symm⟩
      have hW3' : (upd H2 q (.lst [])) Wa = some (.lst (ws.map V.int ++ [V.int y])) := by rw [snoc_int]; exact hW3
      walk_at "gs"
      refine i_popV hW3' ?_
      have k4 : Kp [Wa] (upd H2 q (.lst [])) (upd (upd H2 q (.lst [])) Wa (.lst (ws.map V.int))) := kp_set hW3 (fun z => z)
      have x4 := (x2.kp0 kq).kp k4 (x2.apart nW1)
      have hG4 := k4.at_ _ _ hG3 (not_one nGW)
      obtain ⟨_, _, _, ht4⟩ := x4.ins
      walk_at "gs"
      refine ⟨t, ps1, ever, _, ks1, nb1, y, rfl, x4, ?_⟩
      walk_at "gs"
      have hk4 : Kp ps H (upd (upd H2 q (.lst [])) Wa (.lst (ws.map V.int))) := Kp.upd (Kp.trans k2 kq.wide) fWa0
      refine i_dec (fun d => ?_) (fun d => ?_)
      · obtain ⟨d1, d2, d3⟩ := d
        rw [List.length_append, List.length_singleton] at wl
        walk_at "gs"
        refine i_app hG4 (small_sz (by rw [List.length_map]; omega)) ?_
        rw [snoc_int]
        have k5 : Kp [G] (upd (upd H2 q (.lst [])) Wa (.lst (ws.map V.int))) (upd (upd (upd H2 q (.lst [])) Wa (.lst (ws.map V.int))) G (.lst ((went ++ [y]).map V.int))) := kp_set hG4 (fun z => z)
        have x5 := x4.kp k5 (x4.apart nG1)
        have hW5 : (upd (upd (upd H2 q (.lst [])) Wa (.lst (ws.map V.int))) G (.lst ((went ++ [y]).map V.int))) Wa = some (.lst (ws.map V.int)) := by rw [upd_ne (Ne.symm nGW)]; exact upd_same
        obtain ⟨_, _, _, ht5⟩ := x5.ins
        walk_at "gs"
        refine ⟨t, ps1, ever, _, ks1, nb1, y, rfl, x5, d1, fun u hu => ?_, fun u hu h => g2.rp.sym g2.t g2.hU hu h, g2.rp.nd y d1, fun u hu => ?_, fun a ps2 H6 k6 sub6 am an x6 ha6 => ?_⟩
        · obtain ⟨a1, a2, _⟩ := (g2.rp.adj y d1 u).mp hu
          exact ⟨a1, a2, g2.rp.sym g2.t g2.hU d1 hu⟩
        · have := un_len (g2.rp.nd u hu) fun v hv => g2.hU v ((g2.rp.adj u hu v).mp hv).1
          omega
        have hG6 := k6.at_ _ _ upd_same nG1
        have hW6 := k6.at_ _ _ hW5 nW1
        walk_at "gs"
        refine i_extend hW6 ha6 (by rw [List.length_map, List.length_map]; omega) ?_
        rw [← List.map_append]
        walk_at "gs"
        have nW2 : Wa ∉ ps2 := fun h => nW1 (sub6 _ h)
        refine ⟨3 * (ks1.erase y).length + (ws ++ nb1 y).length, ?_, _, ks1.erase y, cutN nb1 y, went ++ [y], ws ++ nb1 y, ps2, rfl, rfl, ?_, x6.kp (kp_set hW6 (fun z => z)) (x6.apart nW2), fun b hb => sub2 b (sub6 b hb), by rw [upd_ne nGW]; exact hG6, upd_same, g2.go d1 d2 d3⟩
        · have e1 := List.length_erase_of_mem d1
          have e2 := List.length_pos_of_mem d1
          rw [List.length_append, List.length_append, List.length_singleton]
          omega
        · exact Kp.upd (Kp.trans (Kp.upd hk4 fG0) (k6.mono sub2)) fWa0
      · walk_at "gs"
        refine ⟨3 * ks1.length + ws.length, ?_, _, ks1, nb1, went, ws, ps1, rfl, rfl, hk4, x4, sub2, hG4, upd_same, g2.skip d⟩
        rw [List.length_append, List.length_singleton]
        omega
    · subst c
      have k3 : Kp ps H (upd H2 q (.lst [])) := Kp.trans k2 kq.wide
      walk_at "gs"
      refine i_sorted (SqL.of hG3) fun fs p pm pw fp => ?_
      have fp0 : Fr H p := k3.free fp
      have kp : Kp [] (upd H2 q (.lst [])) (upd (upd H2 q (.lst [])) p (.lst (fs.map V.int))) := Kp.new fp
      have nd2 : (ks1 ++ went).Nodup := g2.pm.nodup_iff.mpr z.nk
      refine k p fs ps1 ks1 nb1 _ fp0 (fun h => x0.fr fp0 (sub2 _ h)) (Kp.trans k3 kp.wide) (fun b hb => .inl (sub2 b hb)) ((x2.kp0 kq).kp0 kp) g2.tr3 upd_same (strict_of pm (List.nodup_append.mp nd2).2.1 pw) ((pm.append_left ks1).trans g2.pm)


/-! ### copies -/
def nbR (rs : List (Int × Int)) (u : Int) : List Int := rs.flatMap fun q => (if q.1 = u then [q.2] else []) ++ (if q.2 = u then [q.1] else [])
theorem nbR_step {rs : List (Int × Int)} {i : Nat} {q : Int × Int} (h : rs[i]? = some q) (u : Int) : nbR (rs.take (i + 1)) u = nbR (rs.take i) u ++ ((if q.1 = u then [q.2] else []) ++ (if q.2 = u then [q.1] else [])) := by
  unfold nbR
  rw [List.take_add_one, h, List.flatMap_append]
  simp
theorem nbR_len (u : Int) : ∀ rs : List (Int × Int), (nbR rs u).length ≤ 2 * rs.length
  | [] => Nat.zero_le _
  | q :: rs => by
    have ih := nbR_len u rs
    unfold nbR at ih ⊢
    rw [List.flatMap_cons, List.length_append, List.length_cons]
    have : ((if q.1 = u then [q.2] else []) ++ (if q.2 = u then [q.1] else [])).length ≤ 2 := by
      rw [List.length_append]
      split <;> split <;> simp
    omega
theorem mem_nbR {rs : List (Int × Int)} {u v : Int} : v ∈ nbR rs u ↔ (u, v) ∈ rs ∨ (v, u) ∈ rs := by
  unfold nbR
  rw [List.mem_flatMap]
  constructor
  · rintro ⟨q, hq, h⟩
    rcases List.mem_append.mp h with h | h
    · by_cases c : q.1 = u
      · rw [if_pos c, List.mem_singleton] at h
        rw [← c, h]
        exact .inl hq
      · rw [if_neg c] at h
        cases h
    · by_cases c : q.2 = u
      · rw [if_pos c, List.mem_singleton] at h
        rw [← c, h]
        exact .inr hq
      · rw [if_neg c] at h
        cases h
  · rintro (h | h)
    · exact ⟨_, h, List.mem_append.mpr (.inl (by rw [if_pos rfl]; exact List.mem_singleton.mpr rfl))⟩
    · exact ⟨_, h, List.mem_append.mpr (.inr (by rw [if_pos rfl]; exact List.mem_singleton.mpr rfl))⟩
theorem nbR_nd {u : Int} : ∀ {rs : List (Int × Int)}, rs.Nodup → (∀ q ∈ rs, q.1 < q.2) → (nbR rs u).Nodup
  | [], _, _ => List.nodup_nil
  | q :: rs, nd, lt => by
    rw [List.nodup_cons] at nd
    have ih := nbR_nd (u := u) nd.2 fun r hr => lt r (List.mem_cons_of_mem _ hr)
    have hq := lt q List.mem_cons_self
    have e : nbR (q :: rs) u = ((if q.1 = u then [q.2] else []) ++ (if q.2 = u then [q.1] else [])) ++ nbR rs u := by
      unfold nbR
      rw [List.flatMap_cons]
    rw [e]
    refine List.nodup_append.mpr ⟨?_, ih, fun a ha b hb q2 => ?_⟩
    · split <;> split <;> first | omega | simp
    · subst q2
      have m := mem_nbR.mp hb
      rcases List.mem_append.mp ha with h | h
      · by_cases c : q.1 = u
        · rw [if_pos c, List.mem_singleton] at h
          subst h
          subst c
          rcases m with m | m
          · exact nd.1 m
          · have := lt _ (List.mem_cons_of_mem _ m)
            have : q.2 < q.1 := this
            omega
        · rw [if_neg c] at h
          cases h
      · by_cases c : q.2 = u
        · rw [if_pos c, List.mem_singleton] at h
          subst h
          subst c
          rcases m with m | m
          · have := lt _ (List.mem_cons_of_mem _ m)
            have : q.2 < q.1 := this
            omega
          · exact nd.1 m
        · rw [if_neg c] at h
          cases h
theorem RowsOf.nd {ks : List Int} {nb : Int → List Int} {rs : List (Int × Int)} (r : RowsOf ks nb rs) : rs.Nodup := r.1.imp fun {a b} z e => by
  subst e
  unfold ltQ at z
  omega
/-- told by its rows, a tree is the same -/
theorem Tr3.told {D : Int → Int → Int} {ever : Int} {liv ks : List Int} {nb : Int → List Int} {rs : List (Int × Int)} (z : Tr3 D ever liv ks nb) (r : RowsOf ks nb rs) : Tr3 D ever liv ks (nbR rs) :=
  z.alike z.nk (fun _ => Iff.rfl) z.nl (fun _ => Iff.rfl) (fun u _ => nbR_nd r.nd fun q hq => ((r.2 q).mp hq).2.2) fun u hu v => by
    rw [mem_nbR, r.2, r.2]
    constructor
    · rintro (⟨_, h, _⟩ | ⟨h1, h2, _⟩)
      · exact h
      · exact z.rp.sym z.t z.hU h1 h2
    · intro h
      obtain ⟨a, b, _⟩ := (z.rp.adj u hu v).mp h
      by_cases c : u < v
      · exact .inl ⟨hu, h, c⟩
      · exact .inr ⟨a, z.rp.sym z.t z.hU hu h, show v < u by omega⟩
theorem wh_lockE {t : TE} {σ : L2.St} {H : Hp} {Q : VK} (P : Hp → Prop) (h : P H) (k : ∀ H', P H' → tLockE t σ H' Q) : tLockE t σ H Q := k H h

def sp_made (K : PySem.W.Frag) (C : Addr) : Sp := fun vs H Q _ => ∃ (ever : Int) (lvO ndO R : Addr) (liv : List Int) (repO : List (Int × Addr)) (rs : List (Int × Int)), vs = [.int ever, .ref lvO, .ref ndO, .ref R] ∧
  H lvO = some (.lst (liv.map V.int)) ∧ H ndO = some (.dK (repO.map kA)) ∧ LD K H R (rs.map d2) ∧ (repO.map (·.1)).Nodup ∧ repO.length ≤ 200 ∧ rs.length ≤ 40000 ∧ (∀ q ∈ rs, q.1 ∈ repO.map (·.1) ∧ q.2 ∈ repO.map (·.1) ∧ q.1 ≠ q.2) ∧
  ∀ t ps H', Fr H t → (∀ b ∈ ps, Fr H b) → Kp [] H H' → TiesAt C H' t ps ever liv (repO.map (·.1)) (nbR rs) → Q (.ref t) H'
theorem sc_made : FnScope ["ever", "living", "worlds", "rows", "found", "low", "high", "world"] ["ever", "living", "worlds", "rows"] (defScope s_made) :=
  ⟨rfl, rfl, rfl, by decide +kernel, rfl, by decide +kernel, by decide +kernel⟩
theorem ok_made {P : Program} {w : World} {K : PySem.W.Frag} {mg : Str → Option Value} {base : Heap} (T : Txt K mg) :
    FnG P w K mg base 3 T.a_made T.d_made ["ever", "living", "worlds", "rows"] (sp_made K T.c_Ties) := by
  refine okD T.F_made sc_made (fun vs H Q E h => ?_) (fun cdv A outer s H vs Q E hr h => ?_)
  · first
      | (obtain ⟨_, rfl, _⟩ := h; rfl)
      | (obtain ⟨_, _, rfl, _⟩ := h; rfl)
      | (obtain ⟨_, _, _, rfl, _⟩ := h; rfl)
      | (obtain ⟨_, _, _, _, rfl, _⟩ := h; rfl)
      | (obtain ⟨_, _, _, _, _, rfl, _⟩ := h; rfl)
      | (obtain ⟨_, _, _, _, _, _, rfl, _⟩ := h; rfl)
      | (obtain ⟨_, _, _, _, _, _, _, rfl, _⟩ := h; rfl)
      | (obtain ⟨_, _, _, _, _, _, _, _, rfl, _⟩ := h; rfl)
      | (obtain ⟨_, _, _, _, _, _, _, _, _, rfl, _⟩ := h; rfl)
      | (obtain ⟨_, _, _, _, _, _, _, _, _, _, rfl, _⟩ := h; rfl)
      | (obtain ⟨_, _, _, _, _, _, _, _, _, _, _, rfl, _⟩ := h; rfl)
      | (obtain ⟨_, _, _, _, _, _, _, _, _, _, _, _, rfl, _⟩ := h; rfl)
      | (obtain ⟨_, _, _, _, _, _, _, _, _, _, _, _, _, rfl, _⟩ := h; rfl)
      | (obtain ⟨_, _, _, _, _, _, _, _, _, _, _, _, _, _, rfl, _⟩ := h; rfl)
      | (obtain ⟨_, _, _, _, _, _, _, _, _, _, _, _, _, _, _, rfl, _⟩ := h; rfl)
      | (obtain ⟨_, _, _, _, _, _, _, _, _, _, _, _, _, _, _, _, rfl, _⟩ := h; rfl)
      | (obtain ⟨_, _, _, _, _, _, _, _, _, _, _, _, _, _, _, _, _, rfl, _⟩ := h; rfl)
      | (obtain ⟨_, _, _, _, _, _, _, _, _, _, _, _, _, _, _, _, _, _, rfl, _⟩ := h; rfl)
      | (obtain ⟨_, _, _, _, _, _, _, _, _, _, _, _, _, _, _, _, _, _, _, rfl, _⟩ := h; rfl)
  · obtain ⟨ever, lvO, ndO, R, liv, repO, rs, rfl, hlO, hnO, hR, nkO, hlen, hrl, hrs, k⟩ := h
    have cl_Memory := T.cl_Memory
    have na_Memory_pairs := T.na_Memory_pairs
    have na_Memory_wide := T.na_Memory_wide
    have cl_Ties := T.cl_Ties
    have na_Ties_near := T.na_Ties_near
    have na_Ties_own_ever := T.na_Ties_own_ever
    have na_Ties_own_living := T.na_Ties_own_living
    have cl_Store := T.cl_Store
    have na_Store_kept_by_world := T.na_Store_kept_by_world
    have na_Store_own_size := T.na_Store_own_size
    have na_Store_own_ties := T.na_Store_own_ties
    refine ⟨_, (pss_cons (ps_set (i := 4) sc_made.nd rfl (Or.inl rfl) (mk0 T.mk_Ties (ok_Ties_init T) (hr.mono (by decide)) (by rfl) T.mg_Ties T.b_Ties_init passL))
      (pss_cons (k_sfld (K := K) rfl (pv 4) (pv 0) rfl)
      (pss_cons (k_sfld (K := K) rfl (pv 4) (pe_callTy (k_list (K := K) rfl) (by rfl) T.n_list (by decide +kernel) (pa_cons (pv 1) pa_nil)) rfl)
      (pss_cons (k_sfld (K := K) rfl (pv 4) (pe_lock (pe_dc (own := [("world", 7)]) (g := (gName 7)) (tt := tYes) rfl sc_made.nd (pi_keys (pv 2)) (blkOk_by (own := [("world", 7)]) (N := ["ever", "living", "worlds", "rows", "found", "low", "high", "world"]) (sc := defScope s_made) (by decide +kernel)) (fun _ _ _ _ _ => (pg_name (i := 7) sc_made.nd rfl (Or.inl rfl))) (fun _ _ _ _ _ => pts_nil) (fun _ _ _ _ _ => (pv 7)) (fun _ _ _ _ _ => (pe_lst pa_nil)))) rfl)
      (pss_cons (ps_for (passes_of rfl) rfl (k_plist (K := K) rfl (pv 3)) (k_gtup (K := K) 2 rfl rfl (pgs_cons (pg_name (i := 5) sc_made.nd rfl (Or.inl rfl)) (pgs_cons (pg_name (i := 6) sc_made.nd rfl (Or.inl rfl)) pgs_nil)))
      (pss_cons (ps_expr (pe_bm PySem.F.plainAttrs_list PySem.F.slot_list_append PySem.F.type_list_append mt_append (pe_dget (u1 hr.r.units) (k_fld (K := K) rfl (pv 4) rfl) (pv 5) (fun _ _ => rfl)) (pa_cons (pv 6) pa_nil)))
      (pss_one (ps_expr (pe_bm PySem.F.plainAttrs_list PySem.F.slot_list_append PySem.F.type_list_append mt_append (pe_dget (u1 hr.r.units) (k_fld (K := K) rfl (pv 4) rfl) (pv 6) (fun _ _ => rfl)) (pa_cons (pv 5) pa_nil))))))
      (pss_one (ps_ret (pv 4)))))))), ?_⟩
    dsimp only [cxOf, st_1, st_2, st_3, st_4, st_5, st_6, List.length_cons, List.length_nil, List.replicate_succ, List.replicate_zero, Nat.reduceAdd, Nat.reduceSub]
    walk_at "gs"
    refine i_made fun t d ft fd nd => ?_
    refine ⟨t, d, rfl, upd_same, fun ps0 H1 k1 g1 x1 => ?_⟩
    have k01 : Kp [] H H1 := kp_made ft fd k1
    obtain ⟨lv0, nd0, dx, rep0, x1, _, _⟩ := x1
    have ht1 := x1.ht
    have hlO1 := k01.at_ _ _ hlO not_nil
    have nlt : lvO ≠ t := fr_ne hlO ft
    refine ⟨rfl, ?_⟩
    walk_at "gs"
    refine i_new fun L fL => ?_
    walk_at "gs"
    refine wh_lockE (fun H4 => Kp [] H H4 ∧ H4 t = some (.ins T.c_Ties dx (tfs ever L nd0)) ∧ H4 L = some (.lst (liv.map V.int)) ∧ Fr H L) ?_ ?_
    · have fL0 : Fr H L := (Kp.upd (o := .ins T.c_Ties dx (tfs ever lv0 nd0)) k01 ft).free fL
      have ntL : t ≠ L := fr_ne upd_same fL
      exact ⟨Kp.upd (Kp.upd (Kp.upd k01 ft) fL0) ft, upd_same, by rw [upd_ne (Ne.symm ntL)]; exact upd_same, fL0⟩
    rintro H4 ⟨k4, ht4, hL4, fL0⟩
    have hnO4 := k4.at_ _ _ hnO not_nil
    have hR4 := hR.kp k4 (imms_d2 _) not_nil
    refine i_lockE hnO4 fun od => ?_
    walk_at "gs"
    refine i_dkeyG (o := od) upd_same (fun Dd i H' => Kp [] (upd H4 ndO (.frz od (.dK (repO.map kA)))) H' ∧ ∃ rp : List (Int × Addr), H' Dd = some (.dK (rp.map kA)) ∧ rp.map (·.1) = (repO.map (·.1)).take i ∧ (∀ p ∈ rp, H' p.2 = some (.lst []) ∧ Fr (upd H4 ndO (.frz od (.dK (repO.map kA)))) p.2) ∧ (Dd :: rp.map (·.2)).Nodup) ?_ ?_ ?_ ?_
    · intro Dd fD
      exact ⟨Kp.new fD, [], upd_same, by rw [List.take_zero]; rfl, fun p hp => (nomatch hp), by simp⟩
    · rintro Dd i H' fD ⟨k5, _⟩
      exact k5.at_ _ _ upd_same not_nil
    · rintro Dd i ky v H' fD hk ⟨k5, rp, hD, hk5, hrp, nrp⟩
      obtain ⟨p, hp, e⟩ := map_get hk
      cases e
      have hik : (repO.map (·.1))[i]? = some p.1 := by rw [List.getElem?_map, hp]; rfl
      have nin : p.1 ∉ rp.map (·.1) := fun z => by
        rw [hk5] at z
        obtain ⟨j, hj⟩ := List.getElem?_of_mem z
        have jl := (List.getElem?_eq_some_iff.mp hj).1
        rw [List.length_take] at jl
        rw [List.getElem?_take_of_lt (by omega)] at hj
        have := (List.getElem?_inj (List.getElem?_eq_some_iff.mp hj).1 nkO).mp (hj.trans hik.symm)
        omega
      have hrl2 : rp.length ≤ 200 := by
        have e := congrArg List.length hk5
        rw [List.length_map, List.length_take, List.length_map] at e
        omega
      show gName 7 (.int p.1) _ _ _
      walk_at "gs"
      refine i_new fun m fm => ?_
      have nDm : Dd ≠ m := fr_ne hD fm
      have fm0 := k5.free fm
      have km : Kp [] H' (upd H' m (.lst [])) := Kp.new fm
      walk_at "gs"
      refine ⟨rp.map kA, .inl p.1, rfl, by rw [upd_ne nDm]; exact hD, small_sz (by rw [List.length_map]; omega), Kp.upd (Kp.upd k5 fm0) fD, rp ++ [(p.1, m)], ?_, ?_, fun r hr2 => ?_, ?_⟩
      · rw [put_new nin]
        exact upd_same
      · rw [List.map_append, hk5, List.take_add_one, hik]
        rfl
      · rcases List.mem_append.mp hr2 with h | h
        · obtain ⟨h1, h2⟩ := hrp r h
          have nr : r.2 ≠ Dd := fun e => by
            rw [List.nodup_cons] at nrp
            exact nrp.1 (List.mem_map.mpr ⟨r, h, e⟩)
          exact ⟨by rw [upd_ne nr]; exact km.at_ _ _ h1 not_nil, h2⟩
        · rw [List.mem_singleton.mp h]
          exact ⟨by rw [upd_ne (Ne.symm nDm)]; exact upd_same, fm0⟩
      · have e : Dd :: (rp ++ [(p.1, m)]).map (·.2) = (Dd :: rp.map (·.2)) ++ [m] := by rw [List.map_append]; rfl
        rw [e]
        refine List.nodup_append.mpr ⟨nrp, by simp, fun b hb c hc q => ?_⟩
        rw [List.mem_singleton.mp hc] at q
        rcases List.mem_cons.mp hb with h | h
        · exact nDm (h.symm.trans q)
        · obtain ⟨r, hr2, e2⟩ := List.mem_map.mp h
          exact fr_ne (hrp r hr2).1 fm (e2.trans q)
    rintro Dd H' fD ⟨k5, rp, hD, hk5, hrp, nrp⟩
    rw [List.length_map, List.take_of_length_le (by rw [List.length_map]; exact Nat.le_refl _)] at hk5
    have k6 : Kp [] H4 (upd H' ndO (.dK (repO.map kA))) := kp_unl hnO4 (fun z => z) k5
    have ol : ∀ b, Fr (upd H4 ndO (.frz od (.dK (repO.map kA)))) b → Fr H4 b := fun b f => by
      have n : b ≠ ndO := Ne.symm (fr_ne upd_same f)
      exact ⟨by rw [← f.e, upd_ne n]⟩
    have fD4 : Fr H4 Dd := ol _ fD
    have ntD : t ≠ Dd := fr_ne ht4 fD4
    have nLD : L ≠ Dd := fr_ne hL4 fD4
    have nDO : Dd ≠ ndO := Ne.symm (fr_ne hnO4 fD4)
    have ntL : t ≠ L := fun e => by
      rw [e, hL4] at ht4
      cases ht4
    have nm : ∀ p ∈ rp, p.2 ≠ t ∧ p.2 ≠ L ∧ p.2 ≠ Dd ∧ p.2 ≠ ndO := fun p hp => by
      have f := ol _ (hrp p hp).2
      refine ⟨Ne.symm (fr_ne ht4 f), Ne.symm (fr_ne hL4 f), fun e => ?_, Ne.symm (fr_ne hnO4 f)⟩
      rw [List.nodup_cons] at nrp
      exact nrp.1 (List.mem_map.mpr ⟨p, hp, e⟩)
    have ht6 := k6.at_ _ _ ht4 not_nil
    have hL6 := k6.at_ _ _ hL4 not_nil
    have hR6 := hR4.kp k6 (imms_d2 _) not_nil
    have k06 := Kp.trans k4 k6
    refine ⟨k5.at_ _ _ upd_same not_nil, ?_⟩
    walk_at "gs"
    have x7 : TiX T.c_Ties (upd (upd H' ndO (.dK (repO.map kA))) t (.ins T.c_Ties dx (putF "near" (V.ref Dd) (tfs ever L nd0)))) t L Dd dx rp ever liv (nbR []) := by
      refine ⟨show _ = some (HO.ins T.c_Ties dx (tfs ever L Dd)) from upd_same, by rw [upd_ne (Ne.symm ntL)]; exact hL6, by rw [upd_ne (Ne.symm ntD), upd_ne nDO]; exact hD, fun p hp => ?_, ?_, by rw [hk5]; exact nkO⟩
      · obtain ⟨n1, n2, n3, n4⟩ := nm p hp
        rw [upd_ne n1, upd_ne n4]
        exact (hrp p hp).1
      · rw [List.nodup_cons] at nrp
        simp only [List.nodup_cons, List.mem_cons, not_or]
        exact ⟨⟨ntL, ntD, fun z => by
          obtain ⟨p, hp, e⟩ := List.mem_map.mp z
          exact (nm p hp).1 e⟩, ⟨nLD, fun z => by
          obtain ⟨p, hp, e⟩ := List.mem_map.mp z
          exact (nm p hp).2.1 e⟩, nrp⟩
    have k07 : Kp [] H (upd (upd H' ndO (.dK (repO.map kA))) t (.ins T.c_Ties dx (putF "near" (V.ref Dd) (tfs ever L nd0)))) := Kp.upd k06 ft
    have frs : ∀ p ∈ rp, Fr H p.2 := fun p hp => k4.free (ol _ (hrp p hp).2)
    have fD0 : Fr H Dd := k4.free fD4
    have ld7 := hR.kp k07 (imms_d2 _) not_nil
    obtain ⟨xs, hxs, hall⟩ := id ld7
    have hxl := dpa_len hall
    rw [List.length_map] at hxl
    have hx0 : SqL K H R xs := by
      obtain ⟨ys, hys, _⟩ := id hR
      have e := k07.at_ _ _ hys not_nil
      rw [hxs] at e
      injection e with e
      injection e with e
      rw [e]
      exact SqL.of hys
    have hall0 : DpAll K H xs (rs.map d2) := by
      obtain ⟨ys, hys, ha⟩ := id hR
      have e := k07.at_ _ _ hys not_nil
      rw [hxs] at e
      injection e with e
      injection e with e
      rw [e]
      exact ha
    refine i_each (SqL.of hxs) (fun i σ H2 => ∃ o1 o2 o3 : Option V, σ = [some (.int ever), some (.ref lvO), some (.ref ndO), some (.ref R), some (.ref t), o1, o2, o3] ∧ Kp [] H H2 ∧ TiX T.c_Ties H2 t L Dd dx rp ever liv (nbR (rs.take i))) ?_ ?_ ?_ ?_
    · exact ⟨_, _, _, rfl, k07, by rw [List.take_zero]; exact x7⟩
    · rintro i σ H2 _ ⟨_, _, _, _, k2, _⟩
      exact k2.seqL not_nil hx0
    · rintro i y σ H2 hy ⟨o1, o2, o3, rfl, k2, x2⟩
      obtain ⟨dd, hdd, hdp⟩ := dpa_getV hall0 hy
      obtain ⟨q, hq, rfl⟩ := map_get hdd
      obtain ⟨tt, rfl, hT⟩ := dp_pair (dp_imm k2 _ _ rfl hdp)
      obtain ⟨m1, m2, m3⟩ := hrs q (List.mem_of_getElem? hq)
      rw [← hk5] at m1 m2
      obtain ⟨b1, hb1, c1⟩ := x2.mem m1
      obtain ⟨b2, hb2, c2⟩ := x2.mem m2
      have l1 := nbR_len q.1 (rs.take i)
      have l2 := nbR_len q.2 (rs.take i)
      have l3 := List.length_take_le i rs
      have l4 : (rs.take i).length ≤ rs.length := by rw [List.length_take]; omega
      have ht2 := x2.ht
      have n12 : b1 ≠ b2 := fun e => m3 (rep_inj x2.parts.2.2.2.1 (a := b1) hb1 (by rw [e]; exact hb2))
      walk_at "gs"
      refine i_dg x2.hn (val_rep x2.nk hb1) ?_
      walk_at "gs"
      refine i_app c1 (small_sz (by rw [List.length_map]; omega)) ?_
      rw [snoc_int]
      have x3 := x2.put hb1 (nbR (rs.take i) q.1 ++ [q.2])
      have ht3 := x3.ht
      have c3 : (upd H2 b1 (.lst ((nbR (rs.take i) q.1 ++ [q.2]).map V.int))) b2 = some (.lst ((nbR (rs.take i) q.2).map V.int)) := by rw [upd_ne (Ne.symm n12)]; exact c2
      walk_at "gs"
      refine i_dg x3.hn (val_rep x3.nk hb2) ?_
      walk_at "gs"
      refine i_app c3 (small_sz (by rw [List.length_map]; omega)) ?_
      rw [snoc_int]
      walk_at "gs"
      refine ⟨_, _, _, rfl, Kp.upd (Kp.upd k2 (frs _ hb1)) (frs _ hb2), (x3.put hb2 (nbR (rs.take i) q.2 ++ [q.1])).congr fun p hp => ?_⟩
      show (if p.1 = q.2 then _ else if p.1 = q.1 then _ else nbR (rs.take i) p.1) = _
      rw [nbR_step hq]
      by_cases d1 : p.1 = q.2
      · rw [if_pos d1, if_neg (fun z => m3 (z.trans d1)), if_pos d1.symm, d1]
        rfl
      · rw [if_neg d1, if_neg (fun z : q.2 = p.1 => d1 z.symm)]
        by_cases d3 : p.1 = q.1
        · rw [if_pos d3, if_pos d3.symm, d3, List.append_nil]
        · rw [if_neg d3, if_neg (fun z : q.1 = p.1 => d3 z.symm), List.append_nil, List.append_nil]
    rintro σ H2 ⟨o1, o2, o3, rfl, k2, x2⟩
    rw [hxl, List.take_length] at x2
    walk_at "gs"
    refine k t (t :: L :: Dd :: rp.map (·.2)) H2 ft (fun b hb => ?_) k2 ⟨L, Dd, dx, rp, x2, rfl, hk5.symm⟩
    simp only [List.mem_cons] at hb
    rcases hb with h | h | h | h
    · rw [h]
      exact ft
    · rw [h]
      exact fL0
    · rw [h]
      exact fD0
    · obtain ⟨p, hp, e⟩ := List.mem_map.mp h
      rw [← e]
      exact frs p hp


/-! ### copied, told, ==, len -/
def sp_tcopied (K : PySem.W.Frag) (C : Addr) : Sp := fun vs H Q _ => ∃ (D : Int → Int → Int) (t : Addr) (ps : List Addr) (ever : Int) (liv ks : List Int) (nb : Int → List Int), vs = [.ref t] ∧ TiesAt C H t ps ever liv ks nb ∧ Tr3 D ever liv ks nb ∧ ever ≤ 200 ∧
  ∀ t2 ps2 nb2 H', Fr H t2 → (∀ b ∈ ps2, Fr H b) → Kp [] H H' → TiesAt C H' t2 ps2 ever liv ks nb2 → Tr3 D ever liv ks nb2 → Q (.ref t2) H'
theorem sc_Ties_copied : FnScope ["self"] ["self"] (defScope s_Ties_copied) :=
  ⟨rfl, rfl, rfl, by decide +kernel, rfl, by decide +kernel, by decide +kernel⟩
theorem ok_Ties_copied {P : Program} {w : World} {K : PySem.W.Frag} {mg : Str → Option Value} {base : Heap} (T : Txt K mg) :
    FnG P w K mg base 4 T.a_Ties_copied T.d_Ties_copied ["self"] (sp_tcopied K T.c_Ties) := by
  refine okD T.F_Ties_copied sc_Ties_copied (fun vs H Q E h => ?_) (fun cdv A outer s H vs Q E hr h => ?_)
  · first
      | (obtain ⟨_, rfl, _⟩ := h; rfl)
      | (obtain ⟨_, _, rfl, _⟩ := h; rfl)
      | (obtain ⟨_, _, _, rfl, _⟩ := h; rfl)
      | (obtain ⟨_, _, _, _, rfl, _⟩ := h; rfl)
      | (obtain ⟨_, _, _, _, _, rfl, _⟩ := h; rfl)
      | (obtain ⟨_, _, _, _, _, _, rfl, _⟩ := h; rfl)
      | (obtain ⟨_, _, _, _, _, _, _, rfl, _⟩ := h; rfl)
      | (obtain ⟨_, _, _, _, _, _, _, _, rfl, _⟩ := h; rfl)
      | (obtain ⟨_, _, _, _, _, _, _, _, _, rfl, _⟩ := h; rfl)
      | (obtain ⟨_, _, _, _, _, _, _, _, _, _, rfl, _⟩ := h; rfl)
      | (obtain ⟨_, _, _, _, _, _, _, _, _, _, _, rfl, _⟩ := h; rfl)
      | (obtain ⟨_, _, _, _, _, _, _, _, _, _, _, _, rfl, _⟩ := h; rfl)
      | (obtain ⟨_, _, _, _, _, _, _, _, _, _, _, _, _, rfl, _⟩ := h; rfl)
      | (obtain ⟨_, _, _, _, _, _, _, _, _, _, _, _, _, _, rfl, _⟩ := h; rfl)
      | (obtain ⟨_, _, _, _, _, _, _, _, _, _, _, _, _, _, _, rfl, _⟩ := h; rfl)
      | (obtain ⟨_, _, _, _, _, _, _, _, _, _, _, _, _, _, _, _, rfl, _⟩ := h; rfl)
      | (obtain ⟨_, _, _, _, _, _, _, _, _, _, _, _, _, _, _, _, _, rfl, _⟩ := h; rfl)
      | (obtain ⟨_, _, _, _, _, _, _, _, _, _, _, _, _, _, _, _, _, _, rfl, _⟩ := h; rfl)
      | (obtain ⟨_, _, _, _, _, _, _, _, _, _, _, _, _, _, _, _, _, _, _, rfl, _⟩ := h; rfl)
  · obtain ⟨D, t, ps, ever, liv, ks, nb, rfl, x0, z, he, k⟩ := h
    obtain ⟨lv, nd, dx, rep, x, rfl, rfl⟩ := id x0
    have klen := z.klen
    obtain ⟨ht, hl, hn, hra, ad, nk⟩ := id x
    have cl_Memory := T.cl_Memory
    have na_Memory_pairs := T.na_Memory_pairs
    have na_Memory_wide := T.na_Memory_wide
    have cl_Ties := T.cl_Ties
    have na_Ties_near := T.na_Ties_near
    have na_Ties_own_ever := T.na_Ties_own_ever
    have na_Ties_own_living := T.na_Ties_own_living
    have cl_Store := T.cl_Store
    have na_Store_kept_by_world := T.na_Store_kept_by_world
    have na_Store_own_size := T.na_Store_own_size
    have na_Store_own_ties := T.na_Store_own_ties
    refine ⟨_, (pss_one (ps_ret (d1 (ok_made T) (hr.mono (by decide)) (by rfl) T.m_made T.F_made.kp T.b_made passL (pa_cons (k_fld (K := K) rfl (pv 0) rfl) (pa_cons (k_fld (K := K) rfl (pv 0) rfl) (pa_cons (k_fld (K := K) rfl (pv 0) rfl) (pa_cons (dm0 T.cl_Ties T.me_Ties_rows (ok_Ties_rows T) (hr.mono (by decide)) T.b_Ties_rows passL (pv 0)) pa_nil))))))), ?_⟩
    dsimp only [cxOf, st_1, st_2, st_3, st_4, st_5, st_6, List.length_cons, List.length_nil, List.replicate_succ, List.replicate_zero, Nat.reduceAdd, Nat.reduceSub]
    walk_at "gs"
    refine ⟨D, t, _, ever, liv, _, nb, rfl, x0, z, he, fun R rs H1 fR k1 ld ro => ?_⟩
    walk_at "gs"
    have hl1 := k1.at_ _ _ hl not_nil
    have hn1 := k1.at_ _ _ hn not_nil
    refine ⟨ever, lv, nd, R, liv, rep, rs, rfl, hl1, hn1, ld, nk, by rw [List.length_map] at klen; omega, ?_, fun q hq => ?_, fun t2 ps2 H2 ft f2 k2 x2 => ?_⟩
    · have e2 : rs.Perm (rws nb (rep.map (·.1))) := (List.perm_ext_iff_of_nodup ro.nd (rws_nd nk z.rp.nd)).mpr fun q => by rw [ro.2, mem_rws]
      rw [e2.length_eq]
      have e3 := rws_len (nb := nb) (n := 200) (ks := rep.map (·.1)) fun u hu => by
        have := z.nlen hu
        omega
      have e4 := Nat.mul_le_mul_right 200 (show (rep.map (·.1)).length ≤ 200 by omega)
      omega
    · obtain ⟨a, b, c⟩ := (ro.2 q).mp hq
      exact ⟨a, ((z.rp.adj _ a _).mp b).1, by omega⟩
    · exact k t2 ps2 _ H2 (k1.free ft) (fun b hb => k1.free (f2 b hb)) (Kp.trans k1 k2) x2 (z.told ro)

theorem fresh_at {H : Hp} {p : Addr} {o : HO} (_ : Fr H p) : upd H p o p = some o := upd_same
theorem all_rep (n : Nat) : (List.replicate n true).all id = true := by simp

/-! ### a store -/
def sfs (n : Int) (d t : Addr) : List (Str × V) := [("kept_by_world", .ref d), ("own_size", .int n), ("own_ties", .ref t)]
/-- the memory m, its private list l told -/
def MemL (K : PySem.W.Frag) (C : Addr) (H : Hp) (m l : Addr) (cs : List Int) : Prop := ∃ dx, H m = some (.ins C dx (mfs cs.length l)) ∧ LD K H l ((rle cs).map d2)
/-- an entry of the dict of memories: world, memory, the memory's list -/
def kM (e : Int × Addr × Addr) : Key × V := (.inl e.1, .ref e.2.1)
section
variable {K : PySem.W.Frag} {C : Addr} {H H' : Hp} {m l b : Addr} {cs : List Int} {ws : List Addr}
theorem MemL.mem (h : MemL K C H m l cs) : MemAt K C H m cs := by
  obtain ⟨dx, h1, h2⟩ := h
  exact ⟨dx, l, h1, h2⟩
theorem MemAt.lst (h : MemAt K C H m cs) : ∃ l, MemL K C H m l cs := by
  obtain ⟨dx, l, h1, h2⟩ := h
  exact ⟨l, dx, h1, h2⟩
theorem MemL.ne (h : MemL K C H m l cs) (o : Off H m b) : l ≠ b := by
  obtain ⟨dx, h1, _⟩ := h
  exact o _ _ _ _ h1
theorem MemL.known (h : MemL K C H m l cs) : (∃ u, H m = some u) ∧ ∃ u, H l = some u := by
  obtain ⟨dx, h1, vs, h2, _⟩ := h
  exact ⟨⟨_, h1⟩, _, h2⟩
theorem MemL.kp (h : MemL K C H m l cs) (k : Kp ws H H') (n1 : m ∉ ws) (n2 : l ∉ ws) : MemL K C H' m l cs := by
  obtain ⟨dx, h1, h2⟩ := h
  exact ⟨dx, k.at_ _ _ h1 n1, h2.kp k (imms_d2 _) n2⟩
end
def ownS (s d : Addr) (ps : List Addr) (es : List (Int × Addr × Addr)) : List Addr := s :: d :: (ps ++ (es.map (·.2.1) ++ es.map (·.2.2)))
structure StX (K : PySem.W.Frag) (CM CT CS : Addr) (H : Hp) (s d t dx : Addr) (ps : List Addr) (es : List (Int × Addr × Addr)) (n ever : Int) (liv ks : List Int) (nb : Int → List Int) (c : Int → List Int) : Prop where
  hs : H s = some (.ins CS dx (sfs n d t))
  hd : H d = some (.dK (es.map kM))
  ti : TiesAt CT H t ps ever liv ks nb
  me : ∀ e ∈ es, MemL K CM H e.2.1 e.2.2 (c e.1)
  kl : es.map (·.1) = liv
  ad : (ownS s d ps es).Nodup
/-- s is a store; own: all that is its own -/
def StoreAt (K : PySem.W.Frag) (CM CT CS : Addr) (H : Hp) (s : Addr) (own : List Addr) (n ever : Int) (liv ks : List Int) (nb : Int → List Int) (c : Int → List Int) : Prop :=
  ∃ d t dx ps es, StX K CM CT CS H s d t dx ps es n ever liv ks nb c ∧ own = ownS s d ps es
section
variable {K : PySem.W.Frag} {CM CT CS : Addr} {H H' : Hp} {s d t dx : Addr} {ps ws own : List Addr} {es : List (Int × Addr × Addr)} {n ever : Int} {liv ks : List Int} {nb : Int → List Int} {c : Int → List Int}
theorem own_s : s ∈ ownS s d ps es := List.mem_cons_self
theorem own_d : d ∈ ownS s d ps es := List.mem_cons_of_mem _ List.mem_cons_self
theorem own_p {b : Addr} (h : b ∈ ps) : b ∈ ownS s d ps es := List.mem_cons_of_mem _ (List.mem_cons_of_mem _ (List.mem_append.mpr (.inl h)))
theorem own_m {e : Int × Addr × Addr} (h : e ∈ es) : e.2.1 ∈ ownS s d ps es := List.mem_cons_of_mem _ (List.mem_cons_of_mem _ (List.mem_append.mpr (.inr (List.mem_append.mpr (.inl (List.mem_map.mpr ⟨e, h, rfl⟩))))))
theorem own_l {e : Int × Addr × Addr} (h : e ∈ es) : e.2.2 ∈ ownS s d ps es := List.mem_cons_of_mem _ (List.mem_cons_of_mem _ (List.mem_append.mpr (.inr (List.mem_append.mpr (.inr (List.mem_map.mpr ⟨e, h, rfl⟩))))))
theorem mem_own {b : Addr} : b ∈ ownS s d ps es ↔ b = s ∨ b = d ∨ b ∈ ps ∨ (∃ e ∈ es, e.2.1 = b) ∨ ∃ e ∈ es, e.2.2 = b := by
  unfold ownS
  rw [List.mem_cons, List.mem_cons, List.mem_append, List.mem_append, List.mem_map, List.mem_map]
theorem StX.kp (x : StX K CM CT CS H s d t dx ps es n ever liv ks nb c) (k : Kp ws H H') (a : ∀ b ∈ ownS s d ps es, b ∉ ws) : StX K CM CT CS H' s d t dx ps es n ever liv ks nb c :=
  ⟨k.at_ _ _ x.hs (a _ own_s), k.at_ _ _ x.hd (a _ own_d), x.ti.kp k fun b hb => a b (own_p hb), fun e he => (x.me e he).kp k (a _ (own_m he)) (a _ (own_l he)), x.kl, x.ad⟩
theorem StoreAt.kp (x : StoreAt K CM CT CS H s own n ever liv ks nb c) (k : Kp ws H H') (a : ∀ b ∈ own, b ∉ ws) : StoreAt K CM CT CS H' s own n ever liv ks nb c := by
  obtain ⟨d, t, dx, ps, es, h, rfl⟩ := x
  exact ⟨d, t, dx, ps, es, h.kp k a, rfl⟩
theorem StoreAt.kp0 (x : StoreAt K CM CT CS H s own n ever liv ks nb c) (k : Kp [] H H') : StoreAt K CM CT CS H' s own n ever liv ks nb c := x.kp k fun _ _ => not_nil
theorem StX.known (x : StX K CM CT CS H s d t dx ps es n ever liv ks nb c) : ∀ b ∈ ownS s d ps es, ∃ u, H b = some u := fun b hb => by
  rcases mem_own.mp hb with h | h | h | ⟨e, he, h⟩ | ⟨e, he, h⟩
  · exact ⟨_, by rw [h]; exact x.hs⟩
  · exact ⟨_, by rw [h]; exact x.hd⟩
  · exact x.ti.known b h
  · rw [← h]
    exact (x.me e he).known.1
  · rw [← h]
    exact (x.me e he).known.2
theorem StoreAt.known (x : StoreAt K CM CT CS H s own n ever liv ks nb c) : ∀ b ∈ own, ∃ u, H b = some u := by
  obtain ⟨d, t, dx, ps, es, h, rfl⟩ := x
  exact h.known
theorem StoreAt.fr (x : StoreAt K CM CT CS H s own n ever liv ks nb c) {p : Addr} (f : Fr H p) : p ∉ own := fun z => by
  obtain ⟨u, e⟩ := x.known p z
  rw [f.e] at e
  cases e
theorem StX.entry (x : StX K CM CT CS H s d t dx ps es n ever liv ks nb c) {w : Int} (h : w ∈ liv) : ∃ m l, (w, m, l) ∈ es := by
  rw [← x.kl] at h
  obtain ⟨⟨a, m, l⟩, he, e⟩ := List.mem_map.mp h
  have e : a = w := e
  subst e
  exact ⟨m, l, he⟩
theorem val_kM {w : Int} {m l : Addr} : ∀ {es : List (Int × Addr × Addr)}, (es.map (·.1)).Nodup → (w, m, l) ∈ es → valV (es.map kM) (.inl w) = some (.ref m)
  | p :: es, nd, h => by
    rw [List.map_cons, List.nodup_cons] at nd
    rcases List.mem_cons.mp h with e | h
    · rw [← e, List.map_cons]
      exact valV_pos rfl
    · rw [List.map_cons, valV_neg (fun z => ?_)]
      · exact val_kM nd.2 h
      · have z : (Sum.inl p.1 : Key) = .inl w := z
        injection z with z
        exact nd.1 (by rw [z]; exact List.mem_map.mpr ⟨_, h, rfl⟩)
end
def sp_ssize (K : PySem.W.Frag) (CM CT CS : Addr) : Sp := fun vs H Q _ => ∃ (s : Addr) (own : List Addr) (n ever : Int) (liv ks : List Int) (nb : Int → List Int) (c : Int → List Int), vs = [.ref s] ∧ StoreAt K CM CT CS H s own n ever liv ks nb c ∧ Q (.int n) H
theorem sc_Store_size : FnScope ["self"] ["self"] (defScope s_Store_size) :=
  ⟨rfl, rfl, rfl, by decide +kernel, rfl, by decide +kernel, by decide +kernel⟩
theorem ok_Store_size {P : Program} {w : World} {K : PySem.W.Frag} {mg : Str → Option Value} {base : Heap} (T : Txt K mg) :
    FnG P w K mg base 1 T.a_Store_size T.d_Store_size ["self"] (sp_ssize K T.c_Memory T.c_Ties T.c_Store) := by
  refine okD T.F_Store_size sc_Store_size (fun vs H Q E h => ?_) (fun cdv A outer s H vs Q E hr h => ?_)
  · first
      | (obtain ⟨_, rfl, _⟩ := h; rfl)
      | (obtain ⟨_, _, rfl, _⟩ := h; rfl)
      | (obtain ⟨_, _, _, rfl, _⟩ := h; rfl)
      | (obtain ⟨_, _, _, _, rfl, _⟩ := h; rfl)
      | (obtain ⟨_, _, _, _, _, rfl, _⟩ := h; rfl)
      | (obtain ⟨_, _, _, _, _, _, rfl, _⟩ := h; rfl)
      | (obtain ⟨_, _, _, _, _, _, _, rfl, _⟩ := h; rfl)
      | (obtain ⟨_, _, _, _, _, _, _, _, rfl, _⟩ := h; rfl)
      | (obtain ⟨_, _, _, _, _, _, _, _, _, rfl, _⟩ := h; rfl)
      | (obtain ⟨_, _, _, _, _, _, _, _, _, _, rfl, _⟩ := h; rfl)
      | (obtain ⟨_, _, _, _, _, _, _, _, _, _, _, rfl, _⟩ := h; rfl)
      | (obtain ⟨_, _, _, _, _, _, _, _, _, _, _, _, rfl, _⟩ := h; rfl)
      | (obtain ⟨_, _, _, _, _, _, _, _, _, _, _, _, _, rfl, _⟩ := h; rfl)
      | (obtain ⟨_, _, _, _, _, _, _, _, _, _, _, _, _, _, rfl, _⟩ := h; rfl)
      | (obtain ⟨_, _, _, _, _, _, _, _, _, _, _, _, _, _, _, rfl, _⟩ := h; rfl)
      | (obtain ⟨_, _, _, _, _, _, _, _, _, _, _, _, _, _, _, _, rfl, _⟩ := h; rfl)
      | (obtain ⟨_, _, _, _, _, _, _, _, _, _, _, _, _, _, _, _, _, rfl, _⟩ := h; rfl)
      | (obtain ⟨_, _, _, _, _, _, _, _, _, _, _, _, _, _, _, _, _, _, rfl, _⟩ := h; rfl)
      | (obtain ⟨_, _, _, _, _, _, _, _, _, _, _, _, _, _, _, _, _, _, _, rfl, _⟩ := h; rfl)
  · obtain ⟨s, own, n, ever, liv, ks, nb, c, rfl, ⟨d, t, dx, ps, es, x, rfl⟩, k⟩ := h
    have hs := x.hs
    have cl_Memory := T.cl_Memory
    have na_Memory_pairs := T.na_Memory_pairs
    have na_Memory_wide := T.na_Memory_wide
    have cl_Ties := T.cl_Ties
    have na_Ties_near := T.na_Ties_near
    have na_Ties_own_ever := T.na_Ties_own_ever
    have na_Ties_own_living := T.na_Ties_own_living
    have cl_Store := T.cl_Store
    have na_Store_kept_by_world := T.na_Store_kept_by_world
    have na_Store_own_size := T.na_Store_own_size
    have na_Store_own_ties := T.na_Store_own_ties
    refine ⟨_, (pss_one (ps_ret (k_fld (K := K) rfl (pv 0) rfl))), ?_⟩
    dsimp only [cxOf, st_1, st_2, st_3, st_4, st_5, st_6, List.length_cons, List.length_nil, List.replicate_succ, List.replicate_zero, Nat.reduceAdd, Nat.reduceSub]
    walk_at "gs"
    exact k
def sp_sties (K : PySem.W.Frag) (CM CT CS : Addr) : Sp := fun vs H Q _ => ∃ (D : Int → Int → Int) (s : Addr) (own : List Addr) (n ever : Int) (liv ks : List Int) (nb : Int → List Int) (c : Int → List Int), vs = [.ref s] ∧ StoreAt K CM CT CS H s own n ever liv ks nb c ∧ Tr3 D ever liv ks nb ∧ ever ≤ 200 ∧
  ∀ t2 ps2 nb2 H', Fr H t2 → (∀ b ∈ ps2, Fr H b) → Kp [] H H' → TiesAt CT H' t2 ps2 ever liv ks nb2 → Tr3 D ever liv ks nb2 → Q (.ref t2) H'
theorem sc_Store_ties : FnScope ["self"] ["self"] (defScope s_Store_ties) :=
  ⟨rfl, rfl, rfl, by decide +kernel, rfl, by decide +kernel, by decide +kernel⟩
theorem ok_Store_ties {P : Program} {w : World} {K : PySem.W.Frag} {mg : Str → Option Value} {base : Heap} (T : Txt K mg) :
    FnG P w K mg base 5 T.a_Store_ties T.d_Store_ties ["self"] (sp_sties K T.c_Memory T.c_Ties T.c_Store) := by
  refine okD T.F_Store_ties sc_Store_ties (fun vs H Q E h => ?_) (fun cdv A outer s H vs Q E hr h => ?_)
  · first
      | (obtain ⟨_, rfl, _⟩ := h; rfl)
      | (obtain ⟨_, _, rfl, _⟩ := h; rfl)
      | (obtain ⟨_, _, _, rfl, _⟩ := h; rfl)
      | (obtain ⟨_, _, _, _, rfl, _⟩ := h; rfl)
      | (obtain ⟨_, _, _, _, _, rfl, _⟩ := h; rfl)
      | (obtain ⟨_, _, _, _, _, _, rfl, _⟩ := h; rfl)
      | (obtain ⟨_, _, _, _, _, _, _, rfl, _⟩ := h; rfl)
      | (obtain ⟨_, _, _, _, _, _, _, _, rfl, _⟩ := h; rfl)
      | (obtain ⟨_, _, _, _, _, _, _, _, _, rfl, _⟩ := h; rfl)
      | (obtain ⟨_, _, _, _, _, _, _, _, _, _, rfl, _⟩ := h; rfl)
      | (obtain ⟨_, _, _, _, _, _, _, _, _, _, _, rfl, _⟩ := h; rfl)
      | (obtain ⟨_, _, _, _, _, _, _, _, _, _, _, _, rfl, _⟩ := h; rfl)
      | (obtain ⟨_, _, _, _, _, _, _, _, _, _, _, _, _, rfl, _⟩ := h; rfl)
      | (obtain ⟨_, _, _, _, _, _, _, _, _, _, _, _, _, _, rfl, _⟩ := h; rfl)
      | (obtain ⟨_, _, _, _, _, _, _, _, _, _, _, _, _, _, _, rfl, _⟩ := h; rfl)
      | (obtain ⟨_, _, _, _, _, _, _, _, _, _, _, _, _, _, _, _, rfl, _⟩ := h; rfl)
      | (obtain ⟨_, _, _, _, _, _, _, _, _, _, _, _, _, _, _, _, _, rfl, _⟩ := h; rfl)
      | (obtain ⟨_, _, _, _, _, _, _, _, _, _, _, _, _, _, _, _, _, _, rfl, _⟩ := h; rfl)
      | (obtain ⟨_, _, _, _, _, _, _, _, _, _, _, _, _, _, _, _, _, _, _, rfl, _⟩ := h; rfl)
  · obtain ⟨D, s, own, n, ever, liv, ks, nb, c, rfl, ⟨d, t, dx, ps, es, x, rfl⟩, z, he, k⟩ := h
    have hs := x.hs
    obtain ⟨_, _, _, ht⟩ := x.ti.ins
    have cl_Memory := T.cl_Memory
    have na_Memory_pairs := T.na_Memory_pairs
    have na_Memory_wide := T.na_Memory_wide
    have cl_Ties := T.cl_Ties
    have na_Ties_near := T.na_Ties_near
    have na_Ties_own_ever := T.na_Ties_own_ever
    have na_Ties_own_living := T.na_Ties_own_living
    have cl_Store := T.cl_Store
    have na_Store_kept_by_world := T.na_Store_kept_by_world
    have na_Store_own_size := T.na_Store_own_size
    have na_Store_own_ties := T.na_Store_own_ties
    refine ⟨_, (pss_one (ps_ret (dm0 T.cl_Ties T.me_Ties_copied (ok_Ties_copied T) (hr.mono (by decide)) T.b_Ties_copied passL (k_fld (K := K) rfl (pv 0) rfl)))), ?_⟩
    dsimp only [cxOf, st_1, st_2, st_3, st_4, st_5, st_6, List.length_cons, List.length_nil, List.replicate_succ, List.replicate_zero, Nat.reduceAdd, Nat.reduceSub]
    walk_at "gs"
    refine ⟨D, t, ps, ever, liv, ks, nb, rfl, x.ti, z, he, fun t2 ps2 nb2 H1 f1 f2 k1 x1 z1 => ?_⟩
    walk_at "gs"
    exact k t2 ps2 nb2 H1 f1 f2 k1 x1 z1
def sp_sliving (K : PySem.W.Frag) (CM CT CS : Addr) : Sp := fun vs H Q _ => ∃ (s : Addr) (own : List Addr) (n ever : Int) (liv ks : List Int) (nb : Int → List Int) (c : Int → List Int), vs = [.ref s] ∧ StoreAt K CM CT CS H s own n ever liv ks nb c ∧ ∀ R, Fr H R → Q (.ref R) (upd H R (.lst (liv.map V.int)))
theorem sc_Store_living : FnScope ["self"] ["self"] (defScope s_Store_living) :=
  ⟨rfl, rfl, rfl, by decide +kernel, rfl, by decide +kernel, by decide +kernel⟩
theorem ok_Store_living {P : Program} {w : World} {K : PySem.W.Frag} {mg : Str → Option Value} {base : Heap} (T : Txt K mg) :
    FnG P w K mg base 2 T.a_Store_living T.d_Store_living ["self"] (sp_sliving K T.c_Memory T.c_Ties T.c_Store) := by
  refine okD T.F_Store_living sc_Store_living (fun vs H Q E h => ?_) (fun cdv A outer s H vs Q E hr h => ?_)
  · first
      | (obtain ⟨_, rfl, _⟩ := h; rfl)
      | (obtain ⟨_, _, rfl, _⟩ := h; rfl)
      | (obtain ⟨_, _, _, rfl, _⟩ := h; rfl)
      | (obtain ⟨_, _, _, _, rfl, _⟩ := h; rfl)
      | (obtain ⟨_, _, _, _, _, rfl, _⟩ := h; rfl)
      | (obtain ⟨_, _, _, _, _, _, rfl, _⟩ := h; rfl)
      | (obtain ⟨_, _, _, _, _, _, _, rfl, _⟩ := h; rfl)
      | (obtain ⟨_, _, _, _, _, _, _, _, rfl, _⟩ := h; rfl)
      | (obtain ⟨_, _, _, _, _, _, _, _, _, rfl, _⟩ := h; rfl)
      | (obtain ⟨_, _, _, _, _, _, _, _, _, _, rfl, _⟩ := h; rfl)
      | (obtain ⟨_, _, _, _, _, _, _, _, _, _, _, rfl, _⟩ := h; rfl)
      | (obtain ⟨_, _, _, _, _, _, _, _, _, _, _, _, rfl, _⟩ := h; rfl)
      | (obtain ⟨_, _, _, _, _, _, _, _, _, _, _, _, _, rfl, _⟩ := h; rfl)
      | (obtain ⟨_, _, _, _, _, _, _, _, _, _, _, _, _, _, rfl, _⟩ := h; rfl)
      | (obtain ⟨_, _, _, _, _, _, _, _, _, _, _, _, _, _, _, rfl, _⟩ := h; rfl)
      | (obtain ⟨_, _, _, _, _, _, _, _, _, _, _, _, _, _, _, _, rfl, _⟩ := h; rfl)
      | (obtain ⟨_, _, _, _, _, _, _, _, _, _, _, _, _, _, _, _, _, rfl, _⟩ := h; rfl)
      | (obtain ⟨_, _, _, _, _, _, _, _, _, _, _, _, _, _, _, _, _, _, rfl, _⟩ := h; rfl)
      | (obtain ⟨_, _, _, _, _, _, _, _, _, _, _, _, _, _, _, _, _, _, _, rfl, _⟩ := h; rfl)
  · obtain ⟨s, own, n, ever, liv, ks, nb, c, rfl, ⟨d, t, dx, ps, es, x, rfl⟩, k⟩ := h
    have hs := x.hs
    obtain ⟨_, _, _, ht⟩ := x.ti.ins
    have cl_Memory := T.cl_Memory
    have na_Memory_pairs := T.na_Memory_pairs
    have na_Memory_wide := T.na_Memory_wide
    have cl_Ties := T.cl_Ties
    have na_Ties_near := T.na_Ties_near
    have na_Ties_own_ever := T.na_Ties_own_ever
    have na_Ties_own_living := T.na_Ties_own_living
    have cl_Store := T.cl_Store
    have na_Store_kept_by_world := T.na_Store_kept_by_world
    have na_Store_own_size := T.na_Store_own_size
    have na_Store_own_ties := T.na_Store_own_ties
    refine ⟨_, (pss_one (ps_ret (dm0 T.cl_Ties T.me_Ties_living (ok_Ties_living T) (hr.mono (by decide)) T.b_Ties_living passL (k_fld (K := K) rfl (pv 0) rfl)))), ?_⟩
    dsimp only [cxOf, st_1, st_2, st_3, st_4, st_5, st_6, List.length_cons, List.length_nil, List.replicate_succ, List.replicate_zero, Nat.reduceAdd, Nat.reduceSub]
    walk_at "gs"
    refine ⟨t, ps, ever, liv, ks, nb, rfl, x.ti, fun R fR => ?_⟩
    walk_at "gs"
    exact k R fR

theorem fr_by {H : Hp} {l : Addr} (h : ∀ b, Tr H b → l ≠ b) : Fr H l := ⟨by
  cases e : H l with
  | none => rfl
  | some u => exact absurd rfl (h l ⟨_, e⟩)⟩
theorem TiesAt.nd {C : Addr} {H : Hp} {t : Addr} {ps : List Addr} {ever : Int} {liv ks : List Int} {nb : Int → List Int} (x : TiesAt C H t ps ever liv ks nb) : ps.Nodup := by
  obtain ⟨lv, nd, dx, rep, x, rfl, rfl⟩ := x
  exact x.ad
theorem ownS_nd {s d : Addr} {ps : List Addr} {es : List (Int × Addr × Addr)} (sd : s ≠ d) (sp : s ∉ ps) (dp : d ∉ ps) (pn : ps.Nodup) (mn : (es.map (·.2.1)).Nodup) (ln : (es.map (·.2.2)).Nodup) (sm : ∀ e ∈ es, e.2.1 ≠ s ∧ e.2.2 ≠ s) (dm : ∀ e ∈ es, e.2.1 ≠ d ∧ e.2.2 ≠ d) (pm : ∀ e ∈ es, e.2.1 ∉ ps ∧ e.2.2 ∉ ps) (ml : ∀ e ∈ es, ∀ f ∈ es, e.2.1 ≠ f.2.2) : (ownS s d ps es).Nodup := by
  unfold ownS
  rw [List.nodup_cons, List.nodup_cons, List.nodup_append, List.nodup_append]
  refine ⟨fun h => ?_, fun h => ?_, pn, ⟨mn, ln, fun a ha b hb => ?_⟩, fun a ha b hb => ?_⟩
  · rcases List.mem_cons.mp h with h | h
    · exact sd h
    · rcases List.mem_append.mp h with h | h
      · exact sp h
      · rcases List.mem_append.mp h with h | h
        · obtain ⟨e, he, q⟩ := List.mem_map.mp h
          exact (sm e he).1 q
        · obtain ⟨e, he, q⟩ := List.mem_map.mp h
          exact (sm e he).2 q
  · rcases List.mem_append.mp h with h | h
    · exact dp h
    · rcases List.mem_append.mp h with h | h
      · obtain ⟨e, he, q⟩ := List.mem_map.mp h
        exact (dm e he).1 q
      · obtain ⟨e, he, q⟩ := List.mem_map.mp h
        exact (dm e he).2 q
  · obtain ⟨e, he, rfl⟩ := List.mem_map.mp ha
    obtain ⟨f, hf, rfl⟩ := List.mem_map.mp hb
    exact ml e he f hf
  · intro q
    subst q
    rcases List.mem_append.mp hb with h | h
    · obtain ⟨e, he, rfl⟩ := List.mem_map.mp h
      exact (pm e he).1 ha
    · obtain ⟨e, he, rfl⟩ := List.mem_map.mp h
      exact (pm e he).2 ha
def sp_sinit (K : PySem.W.Frag) (CM CT CS : Addr) : Sp := fun vs H Q _ => ∃ (s dx : Addr) (n : Int), vs = [.ref s, .int n] ∧ H s = some (.ins CS dx []) ∧ (1 ≤ n ∧ n ≤ 1000000000000000000) ∧
  ∀ own H', Kp [s] H H' → Grow H [s] own → StoreAt K CM CT CS H' s own n 1 [0] [0] (fun _ => []) (fun _ => List.replicate n.toNat 0) → Q .non H'
theorem sc_Store_init : FnScope ["self", "size"] ["self", "size"] (defScope s_Store_init) :=
  ⟨rfl, rfl, rfl, by decide +kernel, rfl, by decide +kernel, by decide +kernel⟩
theorem ok_Store_init {P : Program} {w : World} {K : PySem.W.Frag} {mg : Str → Option Value} {base : Heap} (T : Txt K mg) :
    FnG P w K mg base 7 T.a_Store_init T.d_Store_init ["self", "size"] (sp_sinit K T.c_Memory T.c_Ties T.c_Store) := by
  refine okD T.F_Store_init sc_Store_init (fun vs H Q E h => ?_) (fun cdv A outer s H vs Q E hr h => ?_)
  · first
      | (obtain ⟨_, rfl, _⟩ := h; rfl)
      | (obtain ⟨_, _, rfl, _⟩ := h; rfl)
      | (obtain ⟨_, _, _, rfl, _⟩ := h; rfl)
      | (obtain ⟨_, _, _, _, rfl, _⟩ := h; rfl)
      | (obtain ⟨_, _, _, _, _, rfl, _⟩ := h; rfl)
      | (obtain ⟨_, _, _, _, _, _, rfl, _⟩ := h; rfl)
      | (obtain ⟨_, _, _, _, _, _, _, rfl, _⟩ := h; rfl)
      | (obtain ⟨_, _, _, _, _, _, _, _, rfl, _⟩ := h; rfl)
      | (obtain ⟨_, _, _, _, _, _, _, _, _, rfl, _⟩ := h; rfl)
      | (obtain ⟨_, _, _, _, _, _, _, _, _, _, rfl, _⟩ := h; rfl)
      | (obtain ⟨_, _, _, _, _, _, _, _, _, _, _, rfl, _⟩ := h; rfl)
      | (obtain ⟨_, _, _, _, _, _, _, _, _, _, _, _, rfl, _⟩ := h; rfl)
      | (obtain ⟨_, _, _, _, _, _, _, _, _, _, _, _, _, rfl, _⟩ := h; rfl)
      | (obtain ⟨_, _, _, _, _, _, _, _, _, _, _, _, _, _, rfl, _⟩ := h; rfl)
      | (obtain ⟨_, _, _, _, _, _, _, _, _, _, _, _, _, _, _, rfl, _⟩ := h; rfl)
      | (obtain ⟨_, _, _, _, _, _, _, _, _, _, _, _, _, _, _, _, rfl, _⟩ := h; rfl)
      | (obtain ⟨_, _, _, _, _, _, _, _, _, _, _, _, _, _, _, _, _, rfl, _⟩ := h; rfl)
      | (obtain ⟨_, _, _, _, _, _, _, _, _, _, _, _, _, _, _, _, _, _, rfl, _⟩ := h; rfl)
      | (obtain ⟨_, _, _, _, _, _, _, _, _, _, _, _, _, _, _, _, _, _, _, rfl, _⟩ := h; rfl)
  · obtain ⟨s, dx, n, rfl, hs, hn, k⟩ := h
    have cl_Memory := T.cl_Memory
    have na_Memory_pairs := T.na_Memory_pairs
    have na_Memory_wide := T.na_Memory_wide
    have cl_Ties := T.cl_Ties
    have na_Ties_near := T.na_Ties_near
    have na_Ties_own_ever := T.na_Ties_own_ever
    have na_Ties_own_living := T.na_Ties_own_living
    have cl_Store := T.cl_Store
    have na_Store_kept_by_world := T.na_Store_kept_by_world
    have na_Store_own_size := T.na_Store_own_size
    have na_Store_own_ties := T.na_Store_own_ties
    refine ⟨_, (pss_cons (k_sfld (K := K) rfl (pv 0) (pe_disp (pps_cons pe_int (mk1 T.mk_Memory (ok_Memory_init T) (hr.mono (by decide)) (by rfl) T.mg_Memory T.b_Memory_init passL (pa_cons (pv 1) pa_nil)) pps_nil) (by rfl) (by rfl) (fun z => by cases z) (by decide)) rfl)
      (pss_cons (k_sfld (K := K) rfl (pv 0) (pv 1) rfl)
      (pss_one (k_sfld (K := K) rfl (pv 0) (mk0 T.mk_Ties (ok_Ties_init T) (hr.mono (by decide)) (by rfl) T.mg_Ties T.b_Ties_init passL) rfl)))), ?_⟩
    dsimp only [cxOf, st_1, st_2, st_3, st_4, st_5, st_6, List.length_cons, List.length_nil, List.replicate_succ, List.replicate_zero, Nat.reduceAdd, Nat.reduceSub]
    walk_at "gs"
    refine i_disp1 fun d fd => ?_
    have nsd : s ≠ d := fr_ne hs fd
    have k1 := Kp.new (ws := []) (o := HO.dK []) fd
    have hd1 := fresh_at (o := HO.dK []) fd
    have hs1 := k1.at_ _ _ hs not_nil
    obtain ⟨H1, e1⟩ : ∃ H1, H1 = upd H d (.dK []) := ⟨_, rfl⟩
    rw [← e1] at k1 hd1 hs1 ⊢
    walk_at "gs"
    refine i_made fun m dm fm fdm ndm => ?_
    refine ⟨m, dm, n, 0, rfl, upd_same, hn, fun H2 k2 M0 of0 => ⟨rfl, ?_⟩⟩
    have k12 := kp_made fm fdm k2
    have hd2 := k12.at_ _ _ hd1 not_nil
    have hs2 := k12.at_ _ _ hs1 not_nil
    obtain ⟨l, ML⟩ := M0.lst
    walk_at "gs"
    refine i_disp1e hd2 ?_
    have nld : l ≠ d := ML.ne (of0 d (tr_upd (tr_upd ⟨_, hd1⟩)))
    have nls : l ≠ s := ML.ne (of0 s (tr_upd (tr_upd ⟨_, hs1⟩)))
    have nlm : l ≠ m := ML.ne (of0 m ⟨_, upd_same⟩)
    have ndm' : d ≠ m := fr_ne hd1 fm
    have nsm : s ≠ m := fr_ne hs1 fm
    have k3 : Kp [d] H2 (upd H2 d (.dK [(.inl 0, .ref m)])) := kp_set hd2 (fun z => z)
    have hd3 : (upd H2 d (.dK [(.inl 0, .ref m)])) d = some (.dK [(.inl 0, .ref m)]) := upd_same
    have hs3 := k3.at_ _ _ hs2 (not_one nsd)
    have ML3 := ML.kp k3 (not_one (Ne.symm ndm')) (not_one nld)
    obtain ⟨H3, e3⟩ : ∃ H3, H3 = upd H2 d (.dK [(.inl 0, .ref m)]) := ⟨_, rfl⟩
    rw [← e3] at k3 hd3 hs3 ML3 ⊢
    walk_at "gs"
    have kA : Kp [s] H3 (upd (upd H3 s (HO.ins T.c_Store dx (putF (Str.ofString "kept_by_world") (V.ref d) []))) s (HO.ins T.c_Store dx (putF (Str.ofString "own_size") (V.int n) (putF (Str.ofString "kept_by_world") (V.ref d) [])))) := Kp.trans (Kp.mut hs3 (fun z => z) (List.mem_singleton.mpr rfl)) (Kp.mut upd_same (fun z => z) (List.mem_singleton.mpr rfl))
    have hs4 : (upd (upd H3 s (HO.ins T.c_Store dx (putF (Str.ofString "kept_by_world") (V.ref d) []))) s (HO.ins T.c_Store dx (putF (Str.ofString "own_size") (V.int n) (putF (Str.ofString "kept_by_world") (V.ref d) [])))) s = some (HO.ins T.c_Store dx (putF (Str.ofString "own_size") (V.int n) (putF (Str.ofString "kept_by_world") (V.ref d) []))) := upd_same
    obtain ⟨H4, e4⟩ : ∃ H4, H4 = upd (upd H3 s (HO.ins T.c_Store dx (putF (Str.ofString "kept_by_world") (V.ref d) []))) s (HO.ins T.c_Store dx (putF (Str.ofString "own_size") (V.int n) (putF (Str.ofString "kept_by_world") (V.ref d) []))) := ⟨_, rfl⟩
    rw [← e4] at kA hs4 ⊢
    have hd4 := kA.at_ _ _ hd3 (not_one (Ne.symm nsd))
    have ML4 := ML3.kp kA (not_one (Ne.symm nsm)) (not_one nls)
    refine i_made fun t dt ft fdt ndt => ?_
    refine ⟨t, dt, rfl, upd_same, fun ps H5 k5 g5 x5 => ⟨rfl, ?_⟩⟩
    have k45 := kp_made ft fdt k5
    have hs5 := k45.at_ _ _ hs4 not_nil
    have hd5 := k45.at_ _ _ hd4 not_nil
    have ML5 := ML4.kp k45 not_nil not_nil
    have fps : ∀ b ∈ ps, Fr H4 b := fun b hb => by
      rcases g5 b hb with h | h
      · rw [List.mem_singleton.mp h]
        exact ft
      · exact (Kp.upd (Kp.new (ws := []) fdt) ft).free h
    walk_at "gs"
    have kB : Kp [s] H5 (upd H5 s (HO.ins T.c_Store dx (sfs n d t))) := Kp.mut hs5 (fun z => z) (List.mem_singleton.mpr rfl)
    have nsp : s ∉ ps := fun h => fr_ne hs4 (fps s h) rfl
    have ndp : d ∉ ps := fun h => fr_ne hd4 (fps d h) rfl
    obtain ⟨⟨_, km⟩, _, kl⟩ := ML4.known
    have nmp : m ∉ ps := fun h => fr_ne km (fps m h) rfl
    have nlp : l ∉ ps := fun h => fr_ne kl (fps l h) rfl
    have k03 : Kp [] H H3 := Kp.drop (Kp.trans (Kp.trans k1 k12).wide k3) fd
    have k04 : Kp [s] H H4 := Kp.trans k03.wide kA
    have fl : Fr H l := fr_by fun b hb => ML.ne (of0 b (tr_upd (tr_upd (tr_kp k1 hb))))
    have fm0 : Fr H m := k1.free fm
    refine k (ownS s d ps [(0, m, l)]) _ (Kp.trans k04 (Kp.trans k45.wide kB)) (fun b hb => ?_) ⟨d, t, dx, ps, [(0, m, l)], ⟨upd_same, kB.at_ _ _ hd5 (not_one (Ne.symm nsd)), x5.kp kB (x5.apart nsp), fun e he => ?_, rfl, ?_⟩, rfl⟩
    · rcases mem_own.mp hb with h | h | h | ⟨e, he, h⟩ | ⟨e, he, h⟩
      · exact .inl (by rw [h]; exact List.mem_singleton.mpr rfl)
      · exact .inr (by rw [h]; exact fd)
      · exact .inr (k04.free (fps b h))
      · rw [List.mem_singleton.mp he] at h
        exact .inr (by rw [← h]; exact fm0)
      · rw [List.mem_singleton.mp he] at h
        exact .inr (by rw [← h]; exact fl)
    · rw [List.mem_singleton.mp he]
      exact ML5.kp kB (not_one (Ne.symm nsm)) (not_one nls)
    · refine ownS_nd nsd nsp ndp x5.nd (by simp) (by simp) (fun e he => ?_) (fun e he => ?_) (fun e he => ?_) fun e he f hf => ?_
      · rw [List.mem_singleton.mp he]
        exact ⟨Ne.symm nsm, nls⟩
      · rw [List.mem_singleton.mp he]
        exact ⟨Ne.symm ndm', nld⟩
      · rw [List.mem_singleton.mp he]
        exact ⟨nmp, nlp⟩
      · rw [List.mem_singleton.mp he, List.mem_singleton.mp hf]
        exact Ne.symm nlm

def sp_sown (K : PySem.W.Frag) (CM CT CS : Addr) : Sp := fun vs H Q _ => ∃ (s d t dx : Addr) (ps : List Addr) (es : List (Int × Addr × Addr)) (n ever : Int) (liv ks : List Int) (nb : Int → List Int) (c : Int → List Int) (w : Int) (m l : Addr), vs = [.ref s, .int w] ∧ StX K CM CT CS H s d t dx ps es n ever liv ks nb c ∧ 0 ≤ w ∧ liv.Nodup ∧ (w, m, l) ∈ es ∧ Q (.ref m) H
theorem sc_Store_own : FnScope ["self", "world"] ["self", "world"] (defScope s_Store_own) :=
  ⟨rfl, rfl, rfl, by decide +kernel, rfl, by decide +kernel, by decide +kernel⟩
theorem ok_Store_own {P : Program} {w : World} {K : PySem.W.Frag} {mg : Str → Option Value} {base : Heap} (T : Txt K mg) :
    FnG P w K mg base 3 T.a_Store_own T.d_Store_own ["self", "world"] (sp_sown K T.c_Memory T.c_Ties T.c_Store) := by
  refine okD T.F_Store_own sc_Store_own (fun vs H Q E h => ?_) (fun cdv A outer s H vs Q E hr h => ?_)
  · first
      | (obtain ⟨_, rfl, _⟩ := h; rfl)
      | (obtain ⟨_, _, rfl, _⟩ := h; rfl)
      | (obtain ⟨_, _, _, rfl, _⟩ := h; rfl)
      | (obtain ⟨_, _, _, _, rfl, _⟩ := h; rfl)
      | (obtain ⟨_, _, _, _, _, rfl, _⟩ := h; rfl)
      | (obtain ⟨_, _, _, _, _, _, rfl, _⟩ := h; rfl)
      | (obtain ⟨_, _, _, _, _, _, _, rfl, _⟩ := h; rfl)
      | (obtain ⟨_, _, _, _, _, _, _, _, rfl, _⟩ := h; rfl)
      | (obtain ⟨_, _, _, _, _, _, _, _, _, rfl, _⟩ := h; rfl)
      | (obtain ⟨_, _, _, _, _, _, _, _, _, _, rfl, _⟩ := h; rfl)
      | (obtain ⟨_, _, _, _, _, _, _, _, _, _, _, rfl, _⟩ := h; rfl)
      | (obtain ⟨_, _, _, _, _, _, _, _, _, _, _, _, rfl, _⟩ := h; rfl)
      | (obtain ⟨_, _, _, _, _, _, _, _, _, _, _, _, _, rfl, _⟩ := h; rfl)
      | (obtain ⟨_, _, _, _, _, _, _, _, _, _, _, _, _, _, rfl, _⟩ := h; rfl)
      | (obtain ⟨_, _, _, _, _, _, _, _, _, _, _, _, _, _, _, rfl, _⟩ := h; rfl)
      | (obtain ⟨_, _, _, _, _, _, _, _, _, _, _, _, _, _, _, _, rfl, _⟩ := h; rfl)
      | (obtain ⟨_, _, _, _, _, _, _, _, _, _, _, _, _, _, _, _, _, rfl, _⟩ := h; rfl)
      | (obtain ⟨_, _, _, _, _, _, _, _, _, _, _, _, _, _, _, _, _, _, rfl, _⟩ := h; rfl)
      | (obtain ⟨_, _, _, _, _, _, _, _, _, _, _, _, _, _, _, _, _, _, _, rfl, _⟩ := h; rfl)
  · obtain ⟨s, d, t, dx, ps, es, n, ever, liv, ks, nb, c, w, m, l, rfl, x, hw, nl, he, k⟩ := h
    have hs := x.hs
    have hd := x.hd
    obtain ⟨_, _, _, ht⟩ := x.ti.ins
    have hwl : w ∈ liv := by
      rw [← x.kl]
      exact List.mem_map.mpr ⟨_, he, rfl⟩
    have cl_Memory := T.cl_Memory
    have na_Memory_pairs := T.na_Memory_pairs
    have na_Memory_wide := T.na_Memory_wide
    have cl_Ties := T.cl_Ties
    have na_Ties_near := T.na_Ties_near
    have na_Ties_own_ever := T.na_Ties_own_ever
    have na_Ties_own_living := T.na_Ties_own_living
    have cl_Store := T.cl_Store
    have na_Store_kept_by_world := T.na_Store_kept_by_world
    have na_Store_own_size := T.na_Store_own_size
    have na_Store_own_ties := T.na_Store_own_ties
    refine ⟨_, (pss_cons (ps_if (pt_not (pt_val (dm T.cl_Ties T.me_Ties_lives (ok_Ties_lives T) (hr.mono (by decide)) T.b_Ties_lives passL (k_fld (K := K) rfl (pv 0) rfl) (pa_cons (pv 1) pa_nil)))) (pss_one ps_never) pss_nil)
      (pss_one (ps_ret (pe_dget (u1 hr.r.units) (k_fld (K := K) rfl (pv 0) rfl) (pv 1) (fun _ _ => rfl))))), ?_⟩
    dsimp only [cxOf, st_1, st_2, st_3, st_4, st_5, st_6, List.length_cons, List.length_nil, List.replicate_succ, List.replicate_zero, Nat.reduceAdd, Nat.reduceSub]
    walk_at "gs"
    refine lives_int x.ti hw ?_
    rw [decide_eq_true hwl]
    walk_at "gs"
    refine i_dg hd (val_kM (by rw [x.kl]; exact nl) he) ?_
    walk_at "gs"
    exact k
def sp_smemory (K : PySem.W.Frag) (CM CT CS : Addr) : Sp := fun vs H Q _ => ∃ (s : Addr) (own : List Addr) (n ever : Int) (liv ks : List Int) (nb : Int → List Int) (c : Int → List Int) (w : Int), vs = [.ref s, .int w] ∧ StoreAt K CM CT CS H s own n ever liv ks nb c ∧ 0 ≤ w ∧ liv.Nodup ∧ w ∈ liv ∧ (1 ≤ (c w).length ∧ (c w).length ≤ 1000000000000000000) ∧ (rle (c w)).length ≤ 10000 ∧ NewMem K CM (c w) H Q
theorem sc_Store_memory : FnScope ["self", "world"] ["self", "world"] (defScope s_Store_memory) :=
  ⟨rfl, rfl, rfl, by decide +kernel, rfl, by decide +kernel, by decide +kernel⟩
theorem ok_Store_memory {P : Program} {w : World} {K : PySem.W.Frag} {mg : Str → Option Value} {base : Heap} (T : Txt K mg) :
    FnG P w K mg base 9 T.a_Store_memory T.d_Store_memory ["self", "world"] (sp_smemory K T.c_Memory T.c_Ties T.c_Store) := by
  refine okD T.F_Store_memory sc_Store_memory (fun vs H Q E h => ?_) (fun cdv A outer s H vs Q E hr h => ?_)
  · first
      | (obtain ⟨_, rfl, _⟩ := h; rfl)
      | (obtain ⟨_, _, rfl, _⟩ := h; rfl)
      | (obtain ⟨_, _, _, rfl, _⟩ := h; rfl)
      | (obtain ⟨_, _, _, _, rfl, _⟩ := h; rfl)
      | (obtain ⟨_, _, _, _, _, rfl, _⟩ := h; rfl)
      | (obtain ⟨_, _, _, _, _, _, rfl, _⟩ := h; rfl)
      | (obtain ⟨_, _, _, _, _, _, _, rfl, _⟩ := h; rfl)
      | (obtain ⟨_, _, _, _, _, _, _, _, rfl, _⟩ := h; rfl)
      | (obtain ⟨_, _, _, _, _, _, _, _, _, rfl, _⟩ := h; rfl)
      | (obtain ⟨_, _, _, _, _, _, _, _, _, _, rfl, _⟩ := h; rfl)
      | (obtain ⟨_, _, _, _, _, _, _, _, _, _, _, rfl, _⟩ := h; rfl)
      | (obtain ⟨_, _, _, _, _, _, _, _, _, _, _, _, rfl, _⟩ := h; rfl)
      | (obtain ⟨_, _, _, _, _, _, _, _, _, _, _, _, _, rfl, _⟩ := h; rfl)
      | (obtain ⟨_, _, _, _, _, _, _, _, _, _, _, _, _, _, rfl, _⟩ := h; rfl)
      | (obtain ⟨_, _, _, _, _, _, _, _, _, _, _, _, _, _, _, rfl, _⟩ := h; rfl)
      | (obtain ⟨_, _, _, _, _, _, _, _, _, _, _, _, _, _, _, _, rfl, _⟩ := h; rfl)
      | (obtain ⟨_, _, _, _, _, _, _, _, _, _, _, _, _, _, _, _, _, rfl, _⟩ := h; rfl)
      | (obtain ⟨_, _, _, _, _, _, _, _, _, _, _, _, _, _, _, _, _, _, rfl, _⟩ := h; rfl)
      | (obtain ⟨_, _, _, _, _, _, _, _, _, _, _, _, _, _, _, _, _, _, _, rfl, _⟩ := h; rfl)
  · obtain ⟨s, own, n, ever, liv, ks, nb, c, w, rfl, ⟨d, t, dx, ps, es, x, rfl⟩, hw, nl, hwl, h1, h2, k⟩ := h
    obtain ⟨m, l, he⟩ := x.entry hwl
    have M := x.me _ he
    obtain ⟨_, hm, _⟩ := id M
    have hs := x.hs
    have cl_Memory := T.cl_Memory
    have na_Memory_pairs := T.na_Memory_pairs
    have na_Memory_wide := T.na_Memory_wide
    have cl_Ties := T.cl_Ties
    have na_Ties_near := T.na_Ties_near
    have na_Ties_own_ever := T.na_Ties_own_ever
    have na_Ties_own_living := T.na_Ties_own_living
    have cl_Store := T.cl_Store
    have na_Store_kept_by_world := T.na_Store_kept_by_world
    have na_Store_own_size := T.na_Store_own_size
    have na_Store_own_ties := T.na_Store_own_ties
    refine ⟨_, (pss_one (ps_ret (dm0 T.cl_Memory T.me_Memory_copied (ok_Memory_copied T) (hr.mono (by decide)) T.b_Memory_copied passL (dm T.cl_Store T.me_Store_own (ok_Store_own T) (hr.mono (by decide)) T.b_Store_own passL (pv 0) (pa_cons (pv 1) pa_nil))))), ?_⟩
    dsimp only [cxOf, st_1, st_2, st_3, st_4, st_5, st_6, List.length_cons, List.length_nil, List.replicate_succ, List.replicate_zero, Nat.reduceAdd, Nat.reduceSub]
    walk_at "gs"
    refine ⟨s, d, t, dx, ps, es, n, ever, liv, ks, nb, c, w, m, l, rfl, x, hw, nl, he, ?_⟩
    walk_at "gs"
    refine ⟨m, c w, rfl, M.mem, h1, h2, fun m2 H1 f2 k1 M2 o2 => ?_⟩
    walk_at "gs"
    exact k m2 H1 f2 k1 M2 o2
def sp_sat (K : PySem.W.Frag) (CM CT CS : Addr) : Sp := fun vs H Q _ => ∃ (s : Addr) (own : List Addr) (n ever : Int) (liv ks : List Int) (nb : Int → List Int) (c : Int → List Int) (w : Int) (a : Nat) (v : Int), vs = [.ref s, .int w, .int a] ∧ StoreAt K CM CT CS H s own n ever liv ks nb c ∧ 0 ≤ w ∧ liv.Nodup ∧ w ∈ liv ∧ (rle (c w)).length ≤ 10000 ∧ (c w)[a]? = some v ∧ ∀ H', Kp [] H H' → Q (.int v) H'
theorem sc_Store_at : FnScope ["self", "world", "cell"] ["self", "world", "cell"] (defScope s_Store_at) :=
  ⟨rfl, rfl, rfl, by decide +kernel, rfl, by decide +kernel, by decide +kernel⟩
theorem ok_Store_at {P : Program} {w : World} {K : PySem.W.Frag} {mg : Str → Option Value} {base : Heap} (T : Txt K mg) :
    FnG P w K mg base 5 T.a_Store_at T.d_Store_at ["self", "world", "cell"] (sp_sat K T.c_Memory T.c_Ties T.c_Store) := by
  refine okD T.F_Store_at sc_Store_at (fun vs H Q E h => ?_) (fun cdv A outer s H vs Q E hr h => ?_)
  · first
      | (obtain ⟨_, rfl, _⟩ := h; rfl)
      | (obtain ⟨_, _, rfl, _⟩ := h; rfl)
      | (obtain ⟨_, _, _, rfl, _⟩ := h; rfl)
      | (obtain ⟨_, _, _, _, rfl, _⟩ := h; rfl)
      | (obtain ⟨_, _, _, _, _, rfl, _⟩ := h; rfl)
      | (obtain ⟨_, _, _, _, _, _, rfl, _⟩ := h; rfl)
      | (obtain ⟨_, _, _, _, _, _, _, rfl, _⟩ := h; rfl)
      | (obtain ⟨_, _, _, _, _, _, _, _, rfl, _⟩ := h; rfl)
      | (obtain ⟨_, _, _, _, _, _, _, _, _, rfl, _⟩ := h; rfl)
      | (obtain ⟨_, _, _, _, _, _, _, _, _, _, rfl, _⟩ := h; rfl)
      | (obtain ⟨_, _, _, _, _, _, _, _, _, _, _, rfl, _⟩ := h; rfl)
      | (obtain ⟨_, _, _, _, _, _, _, _, _, _, _, _, rfl, _⟩ := h; rfl)
      | (obtain ⟨_, _, _, _, _, _, _, _, _, _, _, _, _, rfl, _⟩ := h; rfl)
      | (obtain ⟨_, _, _, _, _, _, _, _, _, _, _, _, _, _, rfl, _⟩ := h; rfl)
      | (obtain ⟨_, _, _, _, _, _, _, _, _, _, _, _, _, _, _, rfl, _⟩ := h; rfl)
      | (obtain ⟨_, _, _, _, _, _, _, _, _, _, _, _, _, _, _, _, rfl, _⟩ := h; rfl)
      | (obtain ⟨_, _, _, _, _, _, _, _, _, _, _, _, _, _, _, _, _, rfl, _⟩ := h; rfl)
      | (obtain ⟨_, _, _, _, _, _, _, _, _, _, _, _, _, _, _, _, _, _, rfl, _⟩ := h; rfl)
      | (obtain ⟨_, _, _, _, _, _, _, _, _, _, _, _, _, _, _, _, _, _, _, rfl, _⟩ := h; rfl)
  · obtain ⟨s, own, n, ever, liv, ks, nb, c, w, a, v, rfl, ⟨d, t, dx, ps, es, x, rfl⟩, hw, nl, hwl, h2, hv, k⟩ := h
    obtain ⟨m, l, he⟩ := x.entry hwl
    have M := x.me _ he
    obtain ⟨_, hm, _⟩ := id M
    have hs := x.hs
    have cl_Memory := T.cl_Memory
    have na_Memory_pairs := T.na_Memory_pairs
    have na_Memory_wide := T.na_Memory_wide
    have cl_Ties := T.cl_Ties
    have na_Ties_near := T.na_Ties_near
    have na_Ties_own_ever := T.na_Ties_own_ever
    have na_Ties_own_living := T.na_Ties_own_living
    have cl_Store := T.cl_Store
    have na_Store_kept_by_world := T.na_Store_kept_by_world
    have na_Store_own_size := T.na_Store_own_size
    have na_Store_own_ties := T.na_Store_own_ties
    refine ⟨_, (pss_one (ps_ret (dm T.cl_Memory T.me_Memory_at (ok_Memory_at T) (hr.mono (by decide)) T.b_Memory_at passL (dm T.cl_Store T.me_Store_own (ok_Store_own T) (hr.mono (by decide)) T.b_Store_own passL (pv 0) (pa_cons (pv 1) pa_nil)) (pa_cons (pv 2) pa_nil)))), ?_⟩
    dsimp only [cxOf, st_1, st_2, st_3, st_4, st_5, st_6, List.length_cons, List.length_nil, List.replicate_succ, List.replicate_zero, Nat.reduceAdd, Nat.reduceSub]
    walk_at "gs"
    refine ⟨s, d, t, dx, ps, es, n, ever, liv, ks, nb, c, w, m, l, rfl, x, hw, nl, he, ?_⟩
    walk_at "gs"
    refine ⟨m, a, c w, v, rfl, M.mem, h2, hv, fun H1 k1 => ?_⟩
    walk_at "gs"
    exact k H1 k1
def sp_slen (K : PySem.W.Frag) (CM CT CS : Addr) : Sp := fun vs H Q _ => ∃ (s : Addr) (own : List Addr) (n ever : Int) (liv ks : List Int) (nb : Int → List Int) (c : Int → List Int), vs = [.ref s] ∧ StoreAt K CM CT CS H s own n ever liv ks nb c ∧ liv.length ≤ 1000 ∧ Q (.int liv.length) H
theorem sc_Store_len : FnScope ["self"] ["self"] (defScope s_Store_len) :=
  ⟨rfl, rfl, rfl, by decide +kernel, rfl, by decide +kernel, by decide +kernel⟩
theorem ok_Store_len {P : Program} {w : World} {K : PySem.W.Frag} {mg : Str → Option Value} {base : Heap} (T : Txt K mg) :
    FnG P w K mg base 1 T.a_Store_len T.d_Store_len ["self"] (sp_slen K T.c_Memory T.c_Ties T.c_Store) := by
  refine okD T.F_Store_len sc_Store_len (fun vs H Q E h => ?_) (fun cdv A outer s H vs Q E hr h => ?_)
  · first
      | (obtain ⟨_, rfl, _⟩ := h; rfl)
      | (obtain ⟨_, _, rfl, _⟩ := h; rfl)
      | (obtain ⟨_, _, _, rfl, _⟩ := h; rfl)
      | (obtain ⟨_, _, _, _, rfl, _⟩ := h; rfl)
      | (obtain ⟨_, _, _, _, _, rfl, _⟩ := h; rfl)
      | (obtain ⟨_, _, _, _, _, _, rfl, _⟩ := h; rfl)
      | (obtain ⟨_, _, _, _, _, _, _, rfl, _⟩ := h; rfl)
      | (obtain ⟨_, _, _, _, _, _, _, _, rfl, _⟩ := h; rfl)
      | (obtain ⟨_, _, _, _, _, _, _, _, _, rfl, _⟩ := h; rfl)
      | (obtain ⟨_, _, _, _, _, _, _, _, _, _, rfl, _⟩ := h; rfl)
      | (obtain ⟨_, _, _, _, _, _, _, _, _, _, _, rfl, _⟩ := h; rfl)
      | (obtain ⟨_, _, _, _, _, _, _, _, _, _, _, _, rfl, _⟩ := h; rfl)
      | (obtain ⟨_, _, _, _, _, _, _, _, _, _, _, _, _, rfl, _⟩ := h; rfl)
      | (obtain ⟨_, _, _, _, _, _, _, _, _, _, _, _, _, _, rfl, _⟩ := h; rfl)
      | (obtain ⟨_, _, _, _, _, _, _, _, _, _, _, _, _, _, _, rfl, _⟩ := h; rfl)
      | (obtain ⟨_, _, _, _, _, _, _, _, _, _, _, _, _, _, _, _, rfl, _⟩ := h; rfl)
      | (obtain ⟨_, _, _, _, _, _, _, _, _, _, _, _, _, _, _, _, _, rfl, _⟩ := h; rfl)
      | (obtain ⟨_, _, _, _, _, _, _, _, _, _, _, _, _, _, _, _, _, _, rfl, _⟩ := h; rfl)
      | (obtain ⟨_, _, _, _, _, _, _, _, _, _, _, _, _, _, _, _, _, _, _, rfl, _⟩ := h; rfl)
  · obtain ⟨s, own, n, ever, liv, ks, nb, c, rfl, ⟨d, t, dx, ps, es, x, rfl⟩, ll, k⟩ := h
    have hs := x.hs
    have hd := x.hd
    have cl_Memory := T.cl_Memory
    have na_Memory_pairs := T.na_Memory_pairs
    have na_Memory_wide := T.na_Memory_wide
    have cl_Ties := T.cl_Ties
    have na_Ties_near := T.na_Ties_near
    have na_Ties_own_ever := T.na_Ties_own_ever
    have na_Ties_own_living := T.na_Ties_own_living
    have cl_Store := T.cl_Store
    have na_Store_kept_by_world := T.na_Store_kept_by_world
    have na_Store_own_size := T.na_Store_own_size
    have na_Store_own_ties := T.na_Store_own_ties
    refine ⟨_, (pss_one (ps_ret (pe_callB call_lenD (by rfl) T.n_len (by decide +kernel) (pa_cons (k_fld (K := K) rfl (pv 0) rfl) pa_nil)))), ?_⟩
    dsimp only [cxOf, st_1, st_2, st_3, st_4, st_5, st_6, List.length_cons, List.length_nil, List.replicate_succ, List.replicate_zero, Nat.reduceAdd, Nat.reduceSub]
    walk_at "gs"
    refine ⟨d, _, rfl, hd, ?_⟩
    rw [List.length_map, show es.length = liv.length by rw [← x.kl, List.length_map]]
    exact k

def setC (c : Int → List Int) (w : Int) (cs : List Int) : Int → List Int := fun x => if x = w then cs else c x
def setL (w : Int) (l : Addr) (e : Int × Addr × Addr) : Int × Addr × Addr := if e.1 = w then (e.1, e.2.1, l) else e
theorem setL_1 {w : Int} {l : Addr} {e : Int × Addr × Addr} : (setL w l e).1 = e.1 := by
  unfold setL
  split <;> rfl
theorem setL_2 {w : Int} {l : Addr} {e : Int × Addr × Addr} : (setL w l e).2.1 = e.2.1 := by
  unfold setL
  split <;> rfl
theorem setL_3 {w : Int} {l : Addr} {e : Int × Addr × Addr} : (setL w l e).2.2 = l ∧ e.1 = w ∨ (setL w l e).2.2 = e.2.2 ∧ e.1 ≠ w := by
  unfold setL
  by_cases c : e.1 = w
  · rw [if_pos c]
    exact .inl ⟨rfl, c⟩
  · rw [if_neg c]
    exact .inr ⟨rfl, c⟩
section
variable {K : PySem.W.Frag} {CM CT CS : Addr} {H H' : Hp} {s d t dx m l : Addr} {ps : List Addr} {es : List (Int × Addr × Addr)} {n ever w : Int} {liv ks : List Int} {nb : Int → List Int} {c : Int → List Int} {cs : List Int}
theorem own_parts (h : (ownS s d ps es).Nodup) : s ≠ d ∧ s ∉ ps ∧ d ∉ ps ∧ ps.Nodup ∧ (es.map (·.2.1)).Nodup ∧ (es.map (·.2.2)).Nodup ∧ (∀ e ∈ es, e.2.1 ≠ s ∧ e.2.2 ≠ s) ∧ (∀ e ∈ es, e.2.1 ≠ d ∧ e.2.2 ≠ d) ∧ (∀ e ∈ es, e.2.1 ∉ ps ∧ e.2.2 ∉ ps) ∧ ∀ e ∈ es, ∀ f ∈ es, e.2.1 ≠ f.2.2 := by
  unfold ownS at h
  rw [List.nodup_cons, List.nodup_cons, List.nodup_append, List.nodup_append] at h
  obtain ⟨h1, h2, h3, ⟨h4, h5, h6⟩, h7⟩ := h
  have a1 : ∀ {e}, e ∈ es → e.2.1 ∈ es.map (·.2.1) ++ es.map (·.2.2) := fun {e} he => List.mem_append.mpr (.inl (List.mem_map.mpr ⟨e, he, rfl⟩))
  have a2 : ∀ {e}, e ∈ es → e.2.2 ∈ es.map (·.2.1) ++ es.map (·.2.2) := fun {e} he => List.mem_append.mpr (.inr (List.mem_map.mpr ⟨e, he, rfl⟩))
  refine ⟨fun q => h1 (by rw [q]; exact List.mem_cons_self), fun q => h1 (List.mem_cons_of_mem _ (List.mem_append.mpr (.inl q))), fun q => h2 (List.mem_append.mpr (.inl q)), h3, h4, h5, fun e he => ⟨fun q => ?_, fun q => ?_⟩, fun e he => ⟨fun q => ?_, fun q => ?_⟩, fun e he => ⟨fun q => ?_, fun q => ?_⟩, fun e he f hf q => ?_⟩
  · exact h1 (by rw [← q]; exact List.mem_cons_of_mem _ (List.mem_append.mpr (.inr (a1 he))))
  · exact h1 (by rw [← q]; exact List.mem_cons_of_mem _ (List.mem_append.mpr (.inr (a2 he))))
  · exact h2 (by rw [← q]; exact List.mem_append.mpr (.inr (a1 he)))
  · exact h2 (by rw [← q]; exact List.mem_append.mpr (.inr (a2 he)))
  · exact h7 _ q _ (a1 he) rfl
  · exact h7 _ q _ (a2 he) rfl
  · exact h6 _ (List.mem_map.mpr ⟨e, he, rfl⟩) _ (List.mem_map.mpr ⟨f, hf, rfl⟩) q
theorem nodup_set {l : Addr} : ∀ {es : List (Int × Addr × Addr)}, (es.map (·.1)).Nodup → (es.map (·.2.2)).Nodup → (∀ e ∈ es, e.2.2 ≠ l) → ((es.map (setL w l)).map (·.2.2)).Nodup
  | [], _, _, _ => .nil
  | e :: es, n1, n2, a => by
    rw [List.map_cons, List.nodup_cons] at n1 n2
    have ih := nodup_set n1.2 n2.2 fun f hf => a f (List.mem_cons_of_mem _ hf)
    rw [List.map_cons, List.map_cons, List.nodup_cons]
    refine ⟨fun h => ?_, ih⟩
    obtain ⟨g, hg, q⟩ := List.mem_map.mp h
    obtain ⟨f, hf, rfl⟩ := List.mem_map.mp hg
    have q : (setL w l f).2.2 = (setL w l e).2.2 := q
    rcases setL_3 (w := w) (l := l) (e := f) with ⟨f1, f2⟩ | ⟨f1, f2⟩ <;> rcases setL_3 (w := w) (l := l) (e := e) with ⟨e1, e2⟩ | ⟨e1, e2⟩
    · exact n1.1 (by rw [e2, ← f2]; exact List.mem_map.mpr ⟨f, hf, rfl⟩)
    · rw [f1, e1] at q
      exact a e List.mem_cons_self q.symm
    · rw [f1, e1] at q
      exact a f (List.mem_cons_of_mem _ hf) q
    · rw [f1, e1] at q
      exact n2.1 (by rw [← q]; exact List.mem_map.mpr ⟨f, hf, rfl⟩)
theorem key_uniq {e f : Int × Addr × Addr} : ∀ {es : List (Int × Addr × Addr)}, (es.map (·.1)).Nodup → e ∈ es → f ∈ es → e.1 = f.1 → e = f
  | g :: es, nd, he, hf, q => by
    rw [List.map_cons, List.nodup_cons] at nd
    rcases List.mem_cons.mp he with a | a <;> rcases List.mem_cons.mp hf with b | b
    · rw [a, b]
    · exact absurd (show g.1 ∈ es.map (·.1) from List.mem_map.mpr ⟨f, b, by rw [← q, a]⟩) nd.1
    · exact absurd (show g.1 ∈ es.map (·.1) from List.mem_map.mpr ⟨e, a, by rw [q, b]⟩) nd.1
    · exact key_uniq nd.2 a b q
/-- a memory of the store is written -/
theorem StX.write (x : StX K CM CT CS H s d t dx ps es n ever liv ks nb c) (nl : liv.Nodup) (he : (w, m, l) ∈ es) (k : Kp [m] H H') (M : MemAt K CM H' m cs) (of : ∀ b, Tr H b → Off H' m b) :
    ∃ es', StX K CM CT CS H' s d t dx ps es' n ever liv ks nb (setC c w cs) ∧ Grow H (ownS s d ps es) (ownS s d ps es') := by
  obtain ⟨l', M'⟩ := M.lst
  have fl : Fr H l' := fr_by fun b hb => M'.ne (of b hb)
  obtain ⟨sd, sp, dp, pn, mn, ln, sm, dm, pm, ml⟩ := own_parts x.ad
  have nk : (es.map (·.1)).Nodup := by rw [x.kl]; exact nl
  have nel : ∀ {b : Addr} {u : HO}, H b = some u → b ≠ l' := fun {b u} e => fr_ne e fl
  have kn : ∀ e ∈ es, (∃ u, H e.2.1 = some u) ∧ ∃ u, H e.2.2 = some u := fun e h => (x.me e h).known
  have same : ∀ e ∈ es, e.2.1 = m → e = (w, m, l) := fun e h q => by
    obtain ⟨i, hi⟩ := List.getElem?_of_mem h
    obtain ⟨j, hj⟩ := List.getElem?_of_mem he
    have e1 : (es.map (·.2.1))[i]? = some m := by rw [List.getElem?_map, hi, ← q]; rfl
    have e2 : (es.map (·.2.1))[j]? = some m := by rw [List.getElem?_map, hj]; rfl
    have li := (List.getElem?_eq_some_iff.mp e1).1
    have := (List.getElem?_inj li mn).mp (e1.trans e2.symm)
    rw [this, hj] at hi
    injection hi with hi
    exact hi.symm
  have mem1 : ∀ e ∈ es.map (setL w l'), ∃ f ∈ es, e = setL w l' f := fun e h => by
    obtain ⟨f, hf, q⟩ := List.mem_map.mp h
    exact ⟨f, hf, q.symm⟩
  have l3 : ∀ f ∈ es, (setL w l' f).2.2 = l' ∨ (setL w l' f).2.2 = f.2.2 := fun f _ => (setL_3).imp (·.1) (·.1)
  refine ⟨es.map (setL w l'), ⟨k.at_ _ _ x.hs (not_one fun q => (sm _ he).1 q.symm), ?_, x.ti.kp k (x.ti.apart (pm _ he).1), fun e h => ?_, ?_, ?_⟩, fun b hb => ?_⟩
  · rw [List.map_map, List.map_congr_left (g := kM) fun e _ => ?_]
    · exact k.at_ _ _ x.hd (not_one fun q => (dm _ he).1 q.symm)
    · show kM (setL w l' e) = kM e
      unfold kM
      rw [setL_1, setL_2]
  · obtain ⟨f, hf, rfl⟩ := mem1 e h
    rw [setL_1, setL_2]
    unfold setC
    rcases setL_3 (w := w) (l := l') (e := f) with ⟨q1, q2⟩ | ⟨q1, q2⟩
    · have ef : f = (w, m, l) := key_uniq nk hf he q2
      rw [q1, if_pos q2, ef]
      exact M'
    · rw [q1, if_neg q2]
      refine (x.me f hf).kp k (not_one fun q => q2 ?_) (not_one fun q => ml _ he f hf q.symm)
      rw [same f hf q]
  · rw [show (es.map (setL w l')).map (·.1) = es.map (·.1) by rw [List.map_map]; exact List.map_congr_left fun e _ => setL_1]
    exact x.kl
  · refine ownS_nd sd sp dp pn ?_ (nodup_set nk ln fun e h => ?_) (fun e h => ?_) (fun e h => ?_) (fun e h => ?_) fun e h f hf => ?_
    · rw [show (es.map (setL w l')).map (·.2.1) = es.map (·.2.1) by rw [List.map_map]; exact List.map_congr_left fun e _ => setL_2]
      exact mn
    · obtain ⟨_, u, hu⟩ := kn e h
      exact nel hu
    · obtain ⟨f, hf, rfl⟩ := mem1 e h
      rw [setL_2]
      refine ⟨(sm f hf).1, ?_⟩
      rcases l3 f hf with q | q <;> rw [q]
      · exact Ne.symm (nel x.hs)
      · exact (sm f hf).2
    · obtain ⟨f, hf, rfl⟩ := mem1 e h
      rw [setL_2]
      refine ⟨(dm f hf).1, ?_⟩
      rcases l3 f hf with q | q <;> rw [q]
      · exact Ne.symm (nel x.hd)
      · exact (dm f hf).2
    · obtain ⟨f, hf, rfl⟩ := mem1 e h
      rw [setL_2]
      refine ⟨(pm f hf).1, ?_⟩
      rcases l3 f hf with q | q <;> rw [q]
      · exact x.ti.fr fl
      · exact (pm f hf).2
    · obtain ⟨e', he', rfl⟩ := mem1 e h
      obtain ⟨f', hf', rfl⟩ := mem1 f hf
      rw [setL_2]
      rcases l3 f' hf' with q | q <;> rw [q]
      · obtain ⟨⟨u, hu⟩, _⟩ := kn e' he'
        exact nel hu
      · exact ml e' he' f' hf'
  · rcases mem_own.mp hb with h | h | h | ⟨e, h, q⟩ | ⟨e, h, q⟩
    · exact .inl (by rw [h]; exact own_s)
    · exact .inl (by rw [h]; exact own_d)
    · exact .inl (own_p h)
    · obtain ⟨f, hf, rfl⟩ := mem1 e h
      rw [setL_2] at q
      exact .inl (by rw [← q]; exact own_m hf)
    · obtain ⟨f, hf, rfl⟩ := mem1 e h
      rcases l3 f hf with z | z <;> rw [z] at q
      · exact .inr (by rw [← q]; exact fl)
      · exact .inl (by rw [← q]; exact own_l hf)
end
def sp_sput (K : PySem.W.Frag) (CM CT CS : Addr) : Sp := fun vs H Q _ => ∃ (s : Addr) (own : List Addr) (n ever : Int) (liv ks : List Int) (nb : Int → List Int) (c : Int → List Int) (w a v : Int), vs = [.ref s, .int w, .int a, .int v] ∧ StoreAt K CM CT CS H s own n ever liv ks nb c ∧ 0 ≤ w ∧ liv.Nodup ∧ w ∈ liv ∧ (rle (c w)).length ≤ 10000 ∧ (0 ≤ a ∧ a < (c w).length) ∧
  ∀ own' H', Kp own H H' → Grow H own own' → StoreAt K CM CT CS H' s own' n ever liv ks nb (setC c w (laid (c w) a.toNat [v] (a + 1).toNat)) → Q .non H'
theorem sc_Store_put : FnScope ["self", "world", "cell", "number"] ["self", "world", "cell", "number"] (defScope s_Store_put) :=
  ⟨rfl, rfl, rfl, by decide +kernel, rfl, by decide +kernel, by decide +kernel⟩
theorem ok_Store_put {P : Program} {w : World} {K : PySem.W.Frag} {mg : Str → Option Value} {base : Heap} (T : Txt K mg) :
    FnG P w K mg base 5 T.a_Store_put T.d_Store_put ["self", "world", "cell", "number"] (sp_sput K T.c_Memory T.c_Ties T.c_Store) := by
  refine okD T.F_Store_put sc_Store_put (fun vs H Q E h => ?_) (fun cdv A outer s H vs Q E hr h => ?_)
  · first
      | (obtain ⟨_, rfl, _⟩ := h; rfl)
      | (obtain ⟨_, _, rfl, _⟩ := h; rfl)
      | (obtain ⟨_, _, _, rfl, _⟩ := h; rfl)
      | (obtain ⟨_, _, _, _, rfl, _⟩ := h; rfl)
      | (obtain ⟨_, _, _, _, _, rfl, _⟩ := h; rfl)
      | (obtain ⟨_, _, _, _, _, _, rfl, _⟩ := h; rfl)
      | (obtain ⟨_, _, _, _, _, _, _, rfl, _⟩ := h; rfl)
      | (obtain ⟨_, _, _, _, _, _, _, _, rfl, _⟩ := h; rfl)
      | (obtain ⟨_, _, _, _, _, _, _, _, _, rfl, _⟩ := h; rfl)
      | (obtain ⟨_, _, _, _, _, _, _, _, _, _, rfl, _⟩ := h; rfl)
      | (obtain ⟨_, _, _, _, _, _, _, _, _, _, _, rfl, _⟩ := h; rfl)
      | (obtain ⟨_, _, _, _, _, _, _, _, _, _, _, _, rfl, _⟩ := h; rfl)
      | (obtain ⟨_, _, _, _, _, _, _, _, _, _, _, _, _, rfl, _⟩ := h; rfl)
      | (obtain ⟨_, _, _, _, _, _, _, _, _, _, _, _, _, _, rfl, _⟩ := h; rfl)
      | (obtain ⟨_, _, _, _, _, _, _, _, _, _, _, _, _, _, _, rfl, _⟩ := h; rfl)
      | (obtain ⟨_, _, _, _, _, _, _, _, _, _, _, _, _, _, _, _, rfl, _⟩ := h; rfl)
      | (obtain ⟨_, _, _, _, _, _, _, _, _, _, _, _, _, _, _, _, _, rfl, _⟩ := h; rfl)
      | (obtain ⟨_, _, _, _, _, _, _, _, _, _, _, _, _, _, _, _, _, _, rfl, _⟩ := h; rfl)
      | (obtain ⟨_, _, _, _, _, _, _, _, _, _, _, _, _, _, _, _, _, _, _, rfl, _⟩ := h; rfl)
  · obtain ⟨s, own, n, ever, liv, ks, nb, c, w, a, v, rfl, ⟨d, t, dx, ps, es, x, rfl⟩, hw, nl, hwl, hr1, ha, k⟩ := h
    obtain ⟨m, l, he⟩ := x.entry hwl
    have M := x.me _ he
    obtain ⟨_, hm, _⟩ := id M
    have hs := x.hs
    have cl_Memory := T.cl_Memory
    have na_Memory_pairs := T.na_Memory_pairs
    have na_Memory_wide := T.na_Memory_wide
    have cl_Ties := T.cl_Ties
    have na_Ties_near := T.na_Ties_near
    have na_Ties_own_ever := T.na_Ties_own_ever
    have na_Ties_own_living := T.na_Ties_own_living
    have cl_Store := T.cl_Store
    have na_Store_kept_by_world := T.na_Store_kept_by_world
    have na_Store_own_size := T.na_Store_own_size
    have na_Store_own_ties := T.na_Store_own_ties
    refine ⟨_, (pss_one (ps_expr (dm T.cl_Memory T.me_Memory_put (ok_Memory_put T) (hr.mono (by decide)) T.b_Memory_put passL (dm T.cl_Store T.me_Store_own (ok_Store_own T) (hr.mono (by decide)) T.b_Store_own passL (pv 0) (pa_cons (pv 1) pa_nil)) (pa_cons (pv 2) (pa_cons (pv 3) pa_nil))))), ?_⟩
    dsimp only [cxOf, st_1, st_2, st_3, st_4, st_5, st_6, List.length_cons, List.length_nil, List.replicate_succ, List.replicate_zero, Nat.reduceAdd, Nat.reduceSub]
    walk_at "gs"
    refine ⟨s, d, t, dx, ps, es, n, ever, liv, ks, nb, c, w, m, l, rfl, x, hw, nl, he, ?_⟩
    walk_at "gs"
    refine ⟨m, a, v, c w, rfl, M.mem, hr1, ha, fun H1 k1 M1 o1 => ?_⟩
    obtain ⟨es1, x1, g1⟩ := x.write nl he k1 M1 o1
    walk_at "gs"
    exact k _ H1 (k1.mono fun b hb => by rw [List.mem_singleton.mp hb]; exact own_m he) g1 ⟨d, t, dx, ps, es1, x1, rfl⟩
def sp_sfill (K : PySem.W.Frag) (CM CT CS : Addr) : Sp := fun vs H Q _ => ∃ (s : Addr) (own : List Addr) (n ever : Int) (liv ks : List Int) (nb : Int → List Int) (c : Int → List Int) (w a b v : Int), vs = [.ref s, .int w, .int a, .int b, .int v] ∧ StoreAt K CM CT CS H s own n ever liv ks nb c ∧ 0 ≤ w ∧ liv.Nodup ∧ w ∈ liv ∧ (rle (c w)).length ≤ 10000 ∧ (0 ≤ a ∧ a ≤ b ∧ b ≤ (c w).length) ∧
  ∀ own' H', Kp own H H' → Grow H own own' → StoreAt K CM CT CS H' s own' n ever liv ks nb (setC c w (laid (c w) a.toNat (List.replicate (b - a).toNat v) b.toNat)) → Q .non H'
theorem sc_Store_fill : FnScope ["self", "world", "begin", "end", "number"] ["self", "world", "begin", "end", "number"] (defScope s_Store_fill) :=
  ⟨rfl, rfl, rfl, by decide +kernel, rfl, by decide +kernel, by decide +kernel⟩
theorem ok_Store_fill {P : Program} {w : World} {K : PySem.W.Frag} {mg : Str → Option Value} {base : Heap} (T : Txt K mg) :
    FnG P w K mg base 5 T.a_Store_fill T.d_Store_fill ["self", "world", "begin", "end", "number"] (sp_sfill K T.c_Memory T.c_Ties T.c_Store) := by
  refine okD T.F_Store_fill sc_Store_fill (fun vs H Q E h => ?_) (fun cdv A outer s H vs Q E hr h => ?_)
  · first
      | (obtain ⟨_, rfl, _⟩ := h; rfl)
      | (obtain ⟨_, _, rfl, _⟩ := h; rfl)
      | (obtain ⟨_, _, _, rfl, _⟩ := h; rfl)
      | (obtain ⟨_, _, _, _, rfl, _⟩ := h; rfl)
      | (obtain ⟨_, _, _, _, _, rfl, _⟩ := h; rfl)
      | (obtain ⟨_, _, _, _, _, _, rfl, _⟩ := h; rfl)
      | (obtain ⟨_, _, _, _, _, _, _, rfl, _⟩ := h; rfl)
      | (obtain ⟨_, _, _, _, _, _, _, _, rfl, _⟩ := h; rfl)
      | (obtain ⟨_, _, _, _, _, _, _, _, _, rfl, _⟩ := h; rfl)
      | (obtain ⟨_, _, _, _, _, _, _, _, _, _, rfl, _⟩ := h; rfl)
      | (obtain ⟨_, _, _, _, _, _, _, _, _, _, _, rfl, _⟩ := h; rfl)
      | (obtain ⟨_, _, _, _, _, _, _, _, _, _, _, _, rfl, _⟩ := h; rfl)
      | (obtain ⟨_, _, _, _, _, _, _, _, _, _, _, _, _, rfl, _⟩ := h; rfl)
      | (obtain ⟨_, _, _, _, _, _, _, _, _, _, _, _, _, _, rfl, _⟩ := h; rfl)
      | (obtain ⟨_, _, _, _, _, _, _, _, _, _, _, _, _, _, _, rfl, _⟩ := h; rfl)
      | (obtain ⟨_, _, _, _, _, _, _, _, _, _, _, _, _, _, _, _, rfl, _⟩ := h; rfl)
      | (obtain ⟨_, _, _, _, _, _, _, _, _, _, _, _, _, _, _, _, _, rfl, _⟩ := h; rfl)
      | (obtain ⟨_, _, _, _, _, _, _, _, _, _, _, _, _, _, _, _, _, _, rfl, _⟩ := h; rfl)
      | (obtain ⟨_, _, _, _, _, _, _, _, _, _, _, _, _, _, _, _, _, _, _, rfl, _⟩ := h; rfl)
  · obtain ⟨s, own, n, ever, liv, ks, nb, c, w, a, b, v, rfl, ⟨d, t, dx, ps, es, x, rfl⟩, hw, nl, hwl, hr1, ha, k⟩ := h
    obtain ⟨m, l, he⟩ := x.entry hwl
    have M := x.me _ he
    obtain ⟨_, hm, _⟩ := id M
    have hs := x.hs
    have cl_Memory := T.cl_Memory
    have na_Memory_pairs := T.na_Memory_pairs
    have na_Memory_wide := T.na_Memory_wide
    have cl_Ties := T.cl_Ties
    have na_Ties_near := T.na_Ties_near
    have na_Ties_own_ever := T.na_Ties_own_ever
    have na_Ties_own_living := T.na_Ties_own_living
    have cl_Store := T.cl_Store
    have na_Store_kept_by_world := T.na_Store_kept_by_world
    have na_Store_own_size := T.na_Store_own_size
    have na_Store_own_ties := T.na_Store_own_ties
    refine ⟨_, (pss_one (ps_expr (dm T.cl_Memory T.me_Memory_fill (ok_Memory_fill T) (hr.mono (by decide)) T.b_Memory_fill passL (dm T.cl_Store T.me_Store_own (ok_Store_own T) (hr.mono (by decide)) T.b_Store_own passL (pv 0) (pa_cons (pv 1) pa_nil)) (pa_cons (pv 2) (pa_cons (pv 3) (pa_cons (pv 4) pa_nil)))))), ?_⟩
    dsimp only [cxOf, st_1, st_2, st_3, st_4, st_5, st_6, List.length_cons, List.length_nil, List.replicate_succ, List.replicate_zero, Nat.reduceAdd, Nat.reduceSub]
    walk_at "gs"
    refine ⟨s, d, t, dx, ps, es, n, ever, liv, ks, nb, c, w, m, l, rfl, x, hw, nl, he, ?_⟩
    walk_at "gs"
    refine ⟨m, a, b, v, c w, rfl, M.mem, hr1, ha, fun H1 k1 M1 o1 => ?_⟩
    obtain ⟨es1, x1, g1⟩ := x.write nl he k1 M1 o1
    walk_at "gs"
    exact k _ H1 (k1.mono fun b hb => by rw [List.mem_singleton.mp hb]; exact own_m he) g1 ⟨d, t, dx, ps, es1, x1, rfl⟩

def sp_sbring (K : PySem.W.Frag) (CM CT CS : Addr) : Sp := fun vs H Q _ => ∃ (s : Addr) (own : List Addr) (n ever : Int) (liv ks : List Int) (nb : Int → List Int) (c : Int → List Int) (w a b to g : Int) (src : V), vs = [.ref s, .int w, .int a, .int b, .int to, src] ∧ StoreAt K CM CT CS H s own n ever liv ks nb c ∧ 0 ≤ w ∧ 0 ≤ g ∧ liv.Nodup ∧ w ∈ liv ∧ g ∈ liv ∧ (src = .non ∧ g = w ∨ src = .int g) ∧ (rle (c w)).length ≤ 10000 ∧ (rle (c g)).length ≤ 10000 ∧ (c g).length = (c w).length ∧ (1 ≤ (c w).length ∧ (c w).length ≤ 1000000000000000000) ∧
  (0 ≤ a ∧ a ≤ b ∧ b ≤ (c w).length) ∧ (0 ≤ to ∧ to ≤ (c w).length - (b - a)) ∧
  ∀ own' H', Kp own H H' → Grow H own own' → StoreAt K CM CT CS H' s own' n ever liv ks nb (setC c w (laid (c w) to.toNat (((c g).drop a.toNat).take (b.toNat - a.toNat)) (to + b - a).toNat)) → Q .non H'
theorem sc_Store_bring : FnScope ["self", "world", "begin", "end", "to", "source", "goal"] ["self", "world", "begin", "end", "to", "source"] (defScope s_Store_bring) :=
  ⟨rfl, rfl, rfl, by decide +kernel, rfl, by decide +kernel, by decide +kernel⟩
theorem ok_Store_bring {P : Program} {w : World} {K : PySem.W.Frag} {mg : Str → Option Value} {base : Heap} (T : Txt K mg) :
    FnG P w K mg base 9 T.a_Store_bring T.d_Store_bring ["self", "world", "begin", "end", "to", "source"] (sp_sbring K T.c_Memory T.c_Ties T.c_Store) := by
  refine okD T.F_Store_bring sc_Store_bring (fun vs H Q E h => ?_) (fun cdv A outer s H vs Q E hr h => ?_)
  · first
      | (obtain ⟨_, rfl, _⟩ := h; rfl)
      | (obtain ⟨_, _, rfl, _⟩ := h; rfl)
      | (obtain ⟨_, _, _, rfl, _⟩ := h; rfl)
      | (obtain ⟨_, _, _, _, rfl, _⟩ := h; rfl)
      | (obtain ⟨_, _, _, _, _, rfl, _⟩ := h; rfl)
      | (obtain ⟨_, _, _, _, _, _, rfl, _⟩ := h; rfl)
      | (obtain ⟨_, _, _, _, _, _, _, rfl, _⟩ := h; rfl)
      | (obtain ⟨_, _, _, _, _, _, _, _, rfl, _⟩ := h; rfl)
      | (obtain ⟨_, _, _, _, _, _, _, _, _, rfl, _⟩ := h; rfl)
      | (obtain ⟨_, _, _, _, _, _, _, _, _, _, rfl, _⟩ := h; rfl)
      | (obtain ⟨_, _, _, _, _, _, _, _, _, _, _, rfl, _⟩ := h; rfl)
      | (obtain ⟨_, _, _, _, _, _, _, _, _, _, _, _, rfl, _⟩ := h; rfl)
      | (obtain ⟨_, _, _, _, _, _, _, _, _, _, _, _, _, rfl, _⟩ := h; rfl)
      | (obtain ⟨_, _, _, _, _, _, _, _, _, _, _, _, _, _, rfl, _⟩ := h; rfl)
      | (obtain ⟨_, _, _, _, _, _, _, _, _, _, _, _, _, _, _, rfl, _⟩ := h; rfl)
      | (obtain ⟨_, _, _, _, _, _, _, _, _, _, _, _, _, _, _, _, rfl, _⟩ := h; rfl)
      | (obtain ⟨_, _, _, _, _, _, _, _, _, _, _, _, _, _, _, _, _, rfl, _⟩ := h; rfl)
      | (obtain ⟨_, _, _, _, _, _, _, _, _, _, _, _, _, _, _, _, _, _, rfl, _⟩ := h; rfl)
      | (obtain ⟨_, _, _, _, _, _, _, _, _, _, _, _, _, _, _, _, _, _, _, rfl, _⟩ := h; rfl)
  · obtain ⟨s, own, n, ever, liv, ks, nb, c, w, a, b, to, g, src, rfl, ⟨d, t, dx, ps, es, x, rfl⟩, hw, hg, nl, hwl, hgl, hsrc, hr1, hr2, hlen, hsz, ha, ht0, k⟩ := h
    obtain ⟨m, l, he⟩ := x.entry hwl
    obtain ⟨m2, l2, he2⟩ := x.entry hgl
    have M := x.me _ he
    have M2 := x.me _ he2
    obtain ⟨_, hm, _⟩ := id M
    have hs := x.hs
    have nk : (es.map (·.1)).Nodup := by rw [x.kl]; exact nl
    have cl_Memory := T.cl_Memory
    have na_Memory_pairs := T.na_Memory_pairs
    have na_Memory_wide := T.na_Memory_wide
    have cl_Ties := T.cl_Ties
    have na_Ties_near := T.na_Ties_near
    have na_Ties_own_ever := T.na_Ties_own_ever
    have na_Ties_own_living := T.na_Ties_own_living
    have cl_Store := T.cl_Store
    have na_Store_kept_by_world := T.na_Store_kept_by_world
    have na_Store_own_size := T.na_Store_own_size
    have na_Store_own_ties := T.na_Store_own_ties
    refine ⟨_, (pss_cons (ps_set (i := 6) sc_Store_bring.nd rfl (Or.inl rfl) (dm T.cl_Store T.me_Store_own (ok_Store_own T) (hr.mono (by decide)) T.b_Store_own passL (pv 0) (pa_cons (pv 1) pa_nil)))
      (pss_one (ps_if (pt_cmpR op_isN1 (pv 5) pe_non (nomark _)) (pss_one (ps_expr (dm T.cl_Memory T.me_Memory_bring (ok_Memory_bring T) (hr.mono (by decide)) T.b_Memory_bring passL (pv 6) (pa_cons (pv 2) (pa_cons (pv 3) (pa_cons (pv 4) pa_nil)))))) (pss_cons (ps_expr (dm T.cl_Memory T.me_Memory_bring (ok_Memory_bring T) (hr.mono (by decide)) T.b_Memory_bring passL (dm0 T.cl_Memory T.me_Memory_copied (ok_Memory_copied T) (hr.mono (by decide)) T.b_Memory_copied passL (pv 6)) (pa_cons (pv 2) (pa_cons (pv 3) (pa_cons (pv 4) pa_nil)))))
      (pss_one (ps_expr (km T.cl_Memory T.me_Memory_bring (ok_Memory_bring T) (hr.mono (by decide)) T.kb_Memory_bring_4_source passL (pv 6) (pa_cons (pv 2) (pa_cons (pv 3) (pa_cons (pv 4) pa_nil))) (pk_cons (dm T.cl_Store T.me_Store_own (ok_Store_own T) (hr.mono (by decide)) T.b_Store_own passL (pv 0) (pa_cons (pv 5) pa_nil)) pk_nil)))))))), ?_⟩
    dsimp only [cxOf, st_1, st_2, st_3, st_4, st_5, st_6, List.length_cons, List.length_nil, List.replicate_succ, List.replicate_zero, Nat.reduceAdd, Nat.reduceSub]
    walk_at "gs"
    refine ⟨s, d, t, dx, ps, es, n, ever, liv, ks, nb, c, w, m, l, rfl, x, hw, nl, he, ?_⟩
    walk_at "gs"
    rcases hsrc with ⟨rfl, rfl⟩ | rfl
    · walk_at "gs"
      refine ⟨m, a, b, to, .non, m, c g, c g, rfl, M.mem, M.mem, .inl ⟨rfl, rfl, rfl⟩, rfl, hr1, hr1, ha, ht0, fun H1 k1 M1 o1 => ?_⟩
      obtain ⟨es1, x1, g1⟩ := x.write nl he k1 M1 o1
      walk_at "gs"
      exact k _ H1 (k1.mono fun b hb => by rw [List.mem_singleton.mp hb]; exact own_m he) g1 ⟨d, t, dx, ps, es1, x1, rfl⟩
    · walk_at "gs"
      refine ⟨m, c w, rfl, M.mem, hsz, hr1, fun m3 H1 f3 k1 M3 o3 => ?_⟩
      obtain ⟨_, l3, hm3, _⟩ := id M3
      walk_at "gs"
      refine ⟨m3, a, b, to, .non, m3, c w, c w, rfl, M3, M3, .inl ⟨rfl, rfl, rfl⟩, rfl, hr1, hr1, ha, ht0, fun H2 k2 M4 o4 => ?_⟩
      have k12 : Kp [] H H2 := Kp.drop (Kp.trans k1.wide k2) f3
      have x2 := x.kp k12 fun _ _ => not_nil
      have N := x2.me _ he
      have N2 := x2.me _ he2
      have hs2 := x2.hs
      obtain ⟨_, hn, _⟩ := id N
      walk_at "gs"
      refine ⟨s, d, t, dx, ps, es, n, ever, liv, ks, nb, c, g, m2, l2, rfl, x2, hg, nl, he2, ?_⟩
      walk_at "gs"
      refine ⟨m, a, b, to, .ref m2, m2, c w, c g, rfl, N.mem, N2.mem, .inr rfl, hlen, hr1, hr2, ha, ht0, fun H3 k3 M5 o5 => ?_⟩
      obtain ⟨es3, x3, g3⟩ := x2.write nl he k3 M5 o5
      walk_at "gs"
      exact k _ H3 (Kp.trans k12.wide (k3.mono fun b hb => by rw [List.mem_singleton.mp hb]; exact own_m he)) (fun b hb => (g3 b hb).imp id fun f => k12.free f) ⟨d, t, dx, ps, es3, x3, rfl⟩

theorem kM_map (es : List (Int × Addr × Addr)) : es.map kM = (es.map fun e => (e.1, e.2.1)).map kA := by
  rw [List.map_map]
  rfl
theorem put_kM {w : Int} {m l : Addr} {es : List (Int × Addr × Addr)} (h : w ∉ es.map (·.1)) : putK (es.map kM) (.inl w) (.ref m) = (es ++ [(w, m, l)]).map kM := by
  have e : (es ++ [(w, m, l)]).map (fun e : Int × Addr × Addr => (e.1, e.2.1)) = es.map (fun e => (e.1, e.2.1)) ++ [(w, m)] := List.map_append
  rw [kM_map, put_new (by rw [List.map_map]; exact h), kM_map, e]
theorem drop_kM {w : Int} {es : List (Int × Addr × Addr)} : dropK (es.map kM) (.inl w) = (es.filter fun p => decide (p.1 ≠ w)).map kM := by
  rw [kM_map, drop_rep, List.filter_map, List.map_map]
  rfl
section
variable {K : PySem.W.Frag} {CM CT CS : Addr} {H H' : Hp} {s d t dx m l : Addr} {ps : List Addr} {es : List (Int × Addr × Addr)} {n ever w : Int} {liv ks : List Int} {nb : Int → List Int} {c : Int → List Int} {cs : List Int}
/-- the ties of the store have changed, and a new world has a memory -/
theorem StX.added (x : StX K CM CT CS H s d t dx ps es n ever liv ks nb c) (nw : w ∉ liv) {H1 H2 : Hp} {ps2 : List Addr} {ever2 : Int} {ks2 : List Int} {nb2 : Int → List Int} (k1 : Kp [] H H1) (M : MemL K CM H1 m l cs) (fm : Fr H m) (fl : Fr H l) (nml : m ≠ l)
    (k2 : Kp ps H1 H2) (g2 : Grow H1 ps ps2) (x2 : TiesAt CT H2 t ps2 ever2 (liv ++ [w]) ks2 nb2) :
    H2 s = some (.ins CS dx (sfs n d t)) ∧ H2 d = some (.dK (es.map kM)) ∧ StX K CM CT CS (upd H2 d (.dK ((es ++ [(w, m, l)]).map kM))) s d t dx ps2 (es ++ [(w, m, l)]) n ever2 (liv ++ [w]) ks2 nb2 (setC c w cs) ∧ Grow H (ownS s d ps es) (ownS s d ps2 (es ++ [(w, m, l)])) ∧ Kp (ownS s d ps es) H (upd H2 d (.dK ((es ++ [(w, m, l)]).map kM))) := by
  obtain ⟨sd, sp, dp, pn, mn, ln, sm, dm, pm, ml⟩ := own_parts x.ad
  have x1 := x.kp k1 fun _ _ => not_nil
  have g2' : ∀ {b : Addr}, b ∈ ps2 → b ∈ ps ∨ Fr H1 b := fun {b} h => g2 b h
  have nin : ∀ {b : Addr} {u : HO}, H1 b = some u → b ∉ ps → b ∉ ps2 := fun {b u} e h z => by
    rcases g2' z with q | q
    · exact h q
    · rw [q.e] at e
      cases e
  have hs2 := k2.at_ _ _ x1.hs sp
  have hd2 := k2.at_ _ _ x1.hd dp
  have k3 : Kp [d] H2 (upd H2 d (.dK ((es ++ [(w, m, l)]).map kM))) := kp_set hd2 (fun z => z)
  have dp2 := nin x1.hd dp
  obtain ⟨⟨um, hum⟩, ul, hul⟩ := M.known
  have mp : m ∉ ps := x.ti.fr fm
  have lp : l ∉ ps := x.ti.fr fl
  have nm : ∀ {b : Addr} {u : HO}, H b = some u → b ≠ m := fun {b u} e => fr_ne e fm
  have nl : ∀ {b : Addr} {u : HO}, H b = some u → b ≠ l := fun {b u} e => fr_ne e fl
  have kn : ∀ e ∈ es, (∃ u, H e.2.1 = some u) ∧ ∃ u, H e.2.2 = some u := fun e h => (x.me e h).known
  refine ⟨hs2, hd2, ⟨k3.at_ _ _ hs2 (not_one sd), upd_same, x2.kp k3 (x2.apart dp2), fun e he => ?_, ?_, ?_⟩, fun b hb => ?_, ?_⟩
  · rcases List.mem_append.mp he with h | h
    · have ne : e.1 ≠ w := fun q => nw (by rw [← q, ← x.kl]; exact List.mem_map.mpr ⟨e, h, rfl⟩)
      unfold setC
      rw [if_neg ne]
      exact ((x1.me e h).kp k2 (pm e h).1 (pm e h).2).kp k3 (not_one (dm e h).1) (not_one (dm e h).2)
    · rw [List.mem_singleton.mp h]
      show MemL K CM _ m l (setC c w cs w)
      unfold setC
      rw [if_pos rfl]
      exact (M.kp k2 mp lp).kp k3 (not_one (Ne.symm (nm x.hd))) (not_one (Ne.symm (nl x.hd)))
  · rw [List.map_append, x.kl]
    rfl
  · refine ownS_nd sd (nin x1.hs sp) dp2 x2.nd ?_ ?_ (fun e h => ?_) (fun e h => ?_) (fun e h => ?_) fun e h f hf => ?_
    · rw [List.map_append, List.nodup_append]
      refine ⟨mn, by simp, fun a ha b hb => ?_⟩
      obtain ⟨e, he, rfl⟩ := List.mem_map.mp ha
      rw [List.mem_singleton.mp hb]
      obtain ⟨⟨u, hu⟩, _⟩ := kn e he
      exact nm hu
    · rw [List.map_append, List.nodup_append]
      refine ⟨ln, by simp, fun a ha b hb => ?_⟩
      obtain ⟨e, he, rfl⟩ := List.mem_map.mp ha
      rw [List.mem_singleton.mp hb]
      obtain ⟨_, u, hu⟩ := kn e he
      exact nl hu
    · rcases List.mem_append.mp h with h | h
      · exact sm e h
      · rw [List.mem_singleton.mp h]
        exact ⟨Ne.symm (nm x.hs), Ne.symm (nl x.hs)⟩
    · rcases List.mem_append.mp h with h | h
      · exact dm e h
      · rw [List.mem_singleton.mp h]
        exact ⟨Ne.symm (nm x.hd), Ne.symm (nl x.hd)⟩
    · rcases List.mem_append.mp h with h | h
      · obtain ⟨⟨u, hu⟩, v, hv⟩ := (x1.me e h).known
        exact ⟨nin hu (pm e h).1, nin hv (pm e h).2⟩
      · rw [List.mem_singleton.mp h]
        exact ⟨nin hum mp, nin hul lp⟩
    · rcases List.mem_append.mp h with h | h <;> rcases List.mem_append.mp hf with hf | hf
      · exact ml e h f hf
      · rw [List.mem_singleton.mp hf]
        obtain ⟨⟨u, hu⟩, _⟩ := kn e h
        exact nl hu
      · rw [List.mem_singleton.mp h]
        obtain ⟨_, u, hu⟩ := kn f hf
        exact Ne.symm (nm hu)
      · rw [List.mem_singleton.mp h, List.mem_singleton.mp hf]
        exact nml
  · rcases mem_own.mp hb with h | h | h | ⟨e, h, q⟩ | ⟨e, h, q⟩
    · exact .inl (by rw [h]; exact own_s)
    · exact .inl (by rw [h]; exact own_d)
    · rcases g2' h with z | z
      · exact .inl (own_p z)
      · exact .inr (k1.free z)
    · rcases List.mem_append.mp h with h | h
      · exact .inl (by rw [← q]; exact own_m h)
      · rw [List.mem_singleton.mp h] at q
        exact .inr (by rw [← q]; exact fm)
    · rcases List.mem_append.mp h with h | h
      · exact .inl (by rw [← q]; exact own_l h)
      · rw [List.mem_singleton.mp h] at q
        exact .inr (by rw [← q]; exact fl)
  · exact Kp.trans k1.wide (Kp.trans (k2.mono fun b hb => own_p hb) (k3.mono fun b hb => by rw [List.mem_singleton.mp hb]; exact own_d))
end
def sp_sfork (K : PySem.W.Frag) (CM CT CS : Addr) : Sp := fun vs H Q _ => ∃ (D : Int → Int → Int) (s : Addr) (own : List Addr) (n ever : Int) (liv ks : List Int) (nb : Int → List Int) (c : Int → List Int) (w : Int), vs = [.ref s, .int w] ∧ StoreAt K CM CT CS H s own n ever liv ks nb c ∧ Tr3 D ever liv ks nb ∧ ever ≤ 200 ∧ w ∈ liv ∧ (1 ≤ (c w).length ∧ (c w).length ≤ 1000000000000000000) ∧ (rle (c w)).length ≤ 10000 ∧
  ∀ own' H', Kp own H H' → Grow H own own' → StoreAt K CM CT CS H' s own' n (ever + 1) (liv ++ [ever]) (ks ++ [ever]) (forkN nb ever w) (setC c ever (c w)) → Tr3 (Dk D ever w) (ever + 1) (liv ++ [ever]) (ks ++ [ever]) (forkN nb ever w) → Q (.int ever) H'
theorem sc_Store_fork : FnScope ["self", "world", "fresh", "found"] ["self", "world"] (defScope s_Store_fork) :=
  ⟨rfl, rfl, rfl, by decide +kernel, rfl, by decide +kernel, by decide +kernel⟩
theorem ok_Store_fork {P : Program} {w : World} {K : PySem.W.Frag} {mg : Str → Option Value} {base : Heap} (T : Txt K mg) :
    FnG P w K mg base 10 T.a_Store_fork T.d_Store_fork ["self", "world"] (sp_sfork K T.c_Memory T.c_Ties T.c_Store) := by
  refine okD T.F_Store_fork sc_Store_fork (fun vs H Q E h => ?_) (fun cdv A outer s H vs Q E hr h => ?_)
  · first
      | (obtain ⟨_, rfl, _⟩ := h; rfl)
      | (obtain ⟨_, _, rfl, _⟩ := h; rfl)
      | (obtain ⟨_, _, _, rfl, _⟩ := h; rfl)
      | (obtain ⟨_, _, _, _, rfl, _⟩ := h; rfl)
      | (obtain ⟨_, _, _, _, _, rfl, _⟩ := h; rfl)
      | (obtain ⟨_, _, _, _, _, _, rfl, _⟩ := h; rfl)
      | (obtain ⟨_, _, _, _, _, _, _, rfl, _⟩ := h; rfl)
      | (obtain ⟨_, _, _, _, _, _, _, _, rfl, _⟩ := h; rfl)
      | (obtain ⟨_, _, _, _, _, _, _, _, _, rfl, _⟩ := h; rfl)
      | (obtain ⟨_, _, _, _, _, _, _, _, _, _, rfl, _⟩ := h; rfl)
      | (obtain ⟨_, _, _, _, _, _, _, _, _, _, _, rfl, _⟩ := h; rfl)
      | (obtain ⟨_, _, _, _, _, _, _, _, _, _, _, _, rfl, _⟩ := h; rfl)
      | (obtain ⟨_, _, _, _, _, _, _, _, _, _, _, _, _, rfl, _⟩ := h; rfl)
      | (obtain ⟨_, _, _, _, _, _, _, _, _, _, _, _, _, _, rfl, _⟩ := h; rfl)
      | (obtain ⟨_, _, _, _, _, _, _, _, _, _, _, _, _, _, _, rfl, _⟩ := h; rfl)
      | (obtain ⟨_, _, _, _, _, _, _, _, _, _, _, _, _, _, _, _, rfl, _⟩ := h; rfl)
      | (obtain ⟨_, _, _, _, _, _, _, _, _, _, _, _, _, _, _, _, _, rfl, _⟩ := h; rfl)
      | (obtain ⟨_, _, _, _, _, _, _, _, _, _, _, _, _, _, _, _, _, _, rfl, _⟩ := h; rfl)
      | (obtain ⟨_, _, _, _, _, _, _, _, _, _, _, _, _, _, _, _, _, _, _, rfl, _⟩ := h; rfl)
  · obtain ⟨D, s, own, n, ever, liv, ks, nb, c, w, rfl, ⟨d, t, dx, ps, es, x, rfl⟩, z, he, hwl, h1, h2, k⟩ := h
    obtain ⟨hw0, _⟩ := z.hU w (z.sub w hwl)
    have nw : ever ∉ liv := fun q => by
      have := (z.hU ever (z.sub ever q)).2
      omega
    have hs := x.hs
    have ll := z.llen
    have cl_Memory := T.cl_Memory
    have na_Memory_pairs := T.na_Memory_pairs
    have na_Memory_wide := T.na_Memory_wide
    have cl_Ties := T.cl_Ties
    have na_Ties_near := T.na_Ties_near
    have na_Ties_own_ever := T.na_Ties_own_ever
    have na_Ties_own_living := T.na_Ties_own_living
    have cl_Store := T.cl_Store
    have na_Store_kept_by_world := T.na_Store_kept_by_world
    have na_Store_own_size := T.na_Store_own_size
    have na_Store_own_ties := T.na_Store_own_ties
    refine ⟨_, (pss_cons (ps_set (i := 2) sc_Store_fork.nd rfl (Or.inl rfl) (dm T.cl_Store T.me_Store_memory (ok_Store_memory T) (hr.mono (by decide)) T.b_Store_memory passL (pv 0) (pa_cons (pv 1) pa_nil)))
      (pss_cons (ps_set (i := 3) sc_Store_fork.nd rfl (Or.inl rfl) (dm T.cl_Ties T.me_Ties_fork (ok_Ties_fork T) (hr.mono (by decide)) T.b_Ties_fork passL (k_fld (K := K) rfl (pv 0) rfl) (pa_cons (pv 1) pa_nil)))
      (pss_cons (ps_asg (pv 2) (pg_sub (k_fld (K := K) rfl (pv 0) rfl) (pv 3) (set_dict (u1 hr.r.units))))
      (pss_one (ps_ret (pv 3)))))), ?_⟩
    dsimp only [cxOf, st_1, st_2, st_3, st_4, st_5, st_6, List.length_cons, List.length_nil, List.replicate_succ, List.replicate_zero, Nat.reduceAdd, Nat.reduceSub]
    walk_at "gs"
    refine ⟨s, _, n, ever, liv, ks, nb, c, w, rfl, ⟨d, t, dx, ps, es, x, rfl⟩, hw0, z.nl, hwl, h1, h2, fun m H1 fm k1 M1 o1 => ?_⟩
    obtain ⟨l, L1⟩ := M1.lst
    have fl : Fr H l := fr_by fun b hb => L1.ne (o1 b hb)
    have nml : m ≠ l := fun q => by
      obtain ⟨dy, e1, vs, e2, _⟩ := L1
      rw [q, e2] at e1
      cases e1
    have x1 := x.kp k1 fun _ _ => not_nil
    have hs1 := x1.hs
    obtain ⟨_, _, _, ht⟩ := x1.ti.ins
    walk_at "gs"
    refine ⟨D, t, ps, ever, liv, ks, nb, w, rfl, x1.ti, z, he, hwl, fun ps2 H2 k2 g2 x2 z2 => ?_⟩
    obtain ⟨hs2, hd2, x3, g3, k3⟩ := x.added nw k1 L1 fm fl nml k2 g2 x2
    walk_at "gs"
    refine i_setK hd2 (by rw [List.length_map, show es.length = liv.length by rw [← x.kl, List.length_map]]; omega) ?_
    rw [put_kM (l := l) (by rw [x.kl]; exact nw)]
    walk_at "gs"
    exact k _ _ k3 g3 ⟨d, t, dx, ps2, _, x3, rfl⟩ z2

section
variable {K : PySem.W.Frag} {CM CT CS : Addr} {H H1 : Hp} {s d t dx : Addr} {ps ps2 : List Addr} {es : List (Int × Addr × Addr)} {n ever w : Int} {liv ks ks2 : List Int} {nb nb2 : Int → List Int} {c : Int → List Int}
/-- the ties of the store have changed, a world's memory is dropped -/
theorem StX.ended (x : StX K CM CT CS H s d t dx ps es n ever liv ks nb c) (nl : liv.Nodup) (k1 : Kp ps H H1) (g1 : Grow H ps ps2) (x1 : TiesAt CT H1 t ps2 ever (liv.erase w) ks2 nb2) :
    H1 s = some (.ins CS dx (sfs n d t)) ∧ H1 d = some (.dK (es.map kM)) ∧ StX K CM CT CS (upd H1 d (.dK ((es.filter fun p => decide (p.1 ≠ w)).map kM))) s d t dx ps2 (es.filter fun p => decide (p.1 ≠ w)) n ever (liv.erase w) ks2 nb2 c ∧ Grow H (ownS s d ps es) (ownS s d ps2 (es.filter fun p => decide (p.1 ≠ w))) ∧ Kp (ownS s d ps es) H (upd H1 d (.dK ((es.filter fun p => decide (p.1 ≠ w)).map kM))) := by
  obtain ⟨sd, sp, dp, pn, mn, ln, sm, dm, pm, ml⟩ := own_parts x.ad
  have g1' : ∀ {b : Addr}, b ∈ ps2 → b ∈ ps ∨ Fr H b := fun {b} h => g1 b h
  have nin : ∀ {b : Addr} {u : HO}, H b = some u → b ∉ ps → b ∉ ps2 := fun {b u} e h z => by
    rcases g1' z with q | q
    · exact h q
    · rw [q.e] at e
      cases e
  have hs1 := k1.at_ _ _ x.hs sp
  have hd1 := k1.at_ _ _ x.hd dp
  have k2 : Kp [d] H1 (upd H1 d (.dK ((es.filter fun p => decide (p.1 ≠ w)).map kM))) := kp_set hd1 (fun z => z)
  have dp2 := nin x.hd dp
  have old : ∀ {e}, e ∈ es.filter (fun p => decide (p.1 ≠ w)) → e ∈ es := fun {e} h => (List.mem_filter.mp h).1
  refine ⟨hs1, hd1, ⟨k2.at_ _ _ hs1 (not_one sd), upd_same, x1.kp k2 (x1.apart dp2), fun e he => ?_, ?_, ?_⟩, fun b hb => ?_, ?_⟩
  · have h := old he
    exact ((x.me e h).kp k1 (pm e h).1 (pm e h).2).kp k2 (not_one (dm e h).1) (not_one (dm e h).2)
  · rw [nl.erase_eq_filter, ← x.kl, List.filter_map]
    congr 1
    refine List.filter_congr fun p _ => ?_
    show decide (p.1 ≠ w) = (p.1 != w)
    by_cases q : p.1 = w <;> simp [q]
  · refine ownS_nd sd (nin x.hs sp) dp2 x1.nd (mn.sublist (List.filter_sublist.map _)) (ln.sublist (List.filter_sublist.map _)) (fun e h => sm e (old h)) (fun e h => dm e (old h)) (fun e h => ?_) fun e h f hf => ml e (old h) f (old hf)
    obtain ⟨⟨u, hu⟩, v, hv⟩ := (x.me e (old h)).known
    exact ⟨nin hu (pm e (old h)).1, nin hv (pm e (old h)).2⟩
  · rcases mem_own.mp hb with h | h | h | ⟨e, h, q⟩ | ⟨e, h, q⟩
    · exact .inl (by rw [h]; exact own_s)
    · exact .inl (by rw [h]; exact own_d)
    · rcases g1' h with z | z
      · exact .inl (own_p z)
      · exact .inr z
    · exact .inl (by rw [← q]; exact own_m (old h))
    · exact .inl (by rw [← q]; exact own_l (old h))
  · exact Kp.trans (k1.mono fun b hb => own_p hb) (k2.mono fun b hb => by rw [List.mem_singleton.mp hb]; exact own_d)
end
def sp_send (K : PySem.W.Frag) (CM CT CS : Addr) : Sp := fun vs H Q _ => ∃ (D : Int → Int → Int) (s : Addr) (own : List Addr) (n ever : Int) (liv ks : List Int) (nb : Int → List Int) (c : Int → List Int) (w : Int), vs = [.ref s, .int w] ∧ StoreAt K CM CT CS H s own n ever liv ks nb c ∧ Tr3 D ever liv ks nb ∧ ever ≤ 200 ∧ w ∈ liv ∧
  ∀ own' ks' nb' H', Kp own H H' → Grow H own own' → StoreAt K CM CT CS H' s own' n ever (liv.erase w) ks' nb' c → Tr3 D ever (liv.erase w) ks' nb' → Q .non H'
theorem sc_Store_end : FnScope ["self", "world"] ["self", "world"] (defScope s_Store_end) :=
  ⟨rfl, rfl, rfl, by decide +kernel, rfl, by decide +kernel, by decide +kernel⟩
theorem ok_Store_end {P : Program} {w : World} {K : PySem.W.Frag} {mg : Str → Option Value} {base : Heap} (T : Txt K mg) :
    FnG P w K mg base 4 T.a_Store_end T.d_Store_end ["self", "world"] (sp_send K T.c_Memory T.c_Ties T.c_Store) := by
  refine okD T.F_Store_end sc_Store_end (fun vs H Q E h => ?_) (fun cdv A outer s H vs Q E hr h => ?_)
  · first
      | (obtain ⟨_, rfl, _⟩ := h; rfl)
      | (obtain ⟨_, _, rfl, _⟩ := h; rfl)
      | (obtain ⟨_, _, _, rfl, _⟩ := h; rfl)
      | (obtain ⟨_, _, _, _, rfl, _⟩ := h; rfl)
      | (obtain ⟨_, _, _, _, _, rfl, _⟩ := h; rfl)
      | (obtain ⟨_, _, _, _, _, _, rfl, _⟩ := h; rfl)
      | (obtain ⟨_, _, _, _, _, _, _, rfl, _⟩ := h; rfl)
      | (obtain ⟨_, _, _, _, _, _, _, _, rfl, _⟩ := h; rfl)
      | (obtain ⟨_, _, _, _, _, _, _, _, _, rfl, _⟩ := h; rfl)
      | (obtain ⟨_, _, _, _, _, _, _, _, _, _, rfl, _⟩ := h; rfl)
      | (obtain ⟨_, _, _, _, _, _, _, _, _, _, _, rfl, _⟩ := h; rfl)
      | (obtain ⟨_, _, _, _, _, _, _, _, _, _, _, _, rfl, _⟩ := h; rfl)
      | (obtain ⟨_, _, _, _, _, _, _, _, _, _, _, _, _, rfl, _⟩ := h; rfl)
      | (obtain ⟨_, _, _, _, _, _, _, _, _, _, _, _, _, _, rfl, _⟩ := h; rfl)
      | (obtain ⟨_, _, _, _, _, _, _, _, _, _, _, _, _, _, _, rfl, _⟩ := h; rfl)
      | (obtain ⟨_, _, _, _, _, _, _, _, _, _, _, _, _, _, _, _, rfl, _⟩ := h; rfl)
      | (obtain ⟨_, _, _, _, _, _, _, _, _, _, _, _, _, _, _, _, _, rfl, _⟩ := h; rfl)
      | (obtain ⟨_, _, _, _, _, _, _, _, _, _, _, _, _, _, _, _, _, _, rfl, _⟩ := h; rfl)
      | (obtain ⟨_, _, _, _, _, _, _, _, _, _, _, _, _, _, _, _, _, _, _, rfl, _⟩ := h; rfl)
  · obtain ⟨D, s, own, n, ever, liv, ks, nb, c, w, rfl, ⟨d, t, dx, ps, es, x, rfl⟩, z, he, hwl, k⟩ := h
    obtain ⟨m, l, hme⟩ := x.entry hwl
    have hs := x.hs
    obtain ⟨_, _, _, ht⟩ := x.ti.ins
    have cl_Memory := T.cl_Memory
    have na_Memory_pairs := T.na_Memory_pairs
    have na_Memory_wide := T.na_Memory_wide
    have cl_Ties := T.cl_Ties
    have na_Ties_near := T.na_Ties_near
    have na_Ties_own_ever := T.na_Ties_own_ever
    have na_Ties_own_living := T.na_Ties_own_living
    have cl_Store := T.cl_Store
    have na_Store_kept_by_world := T.na_Store_kept_by_world
    have na_Store_own_size := T.na_Store_own_size
    have na_Store_own_ties := T.na_Store_own_ties
    refine ⟨_, (pss_cons (ps_expr (dm T.cl_Ties T.me_Ties_end (ok_Ties_end T) (hr.mono (by decide)) T.b_Ties_end passL (k_fld (K := K) rfl (pv 0) rfl) (pa_cons (pv 1) pa_nil)))
      (pss_one (ps_expr (pe_dpop1 (k_fld (K := K) rfl (pv 0) rfl) (pv 1) ⟨rfl, rfl, rfl, rfl⟩)))), ?_⟩
    dsimp only [cxOf, st_1, st_2, st_3, st_4, st_5, st_6, List.length_cons, List.length_nil, List.replicate_succ, List.replicate_zero, Nat.reduceAdd, Nat.reduceSub]
    walk_at "gs"
    refine ⟨D, t, ps, ever, liv, ks, nb, w, rfl, x.ti, z, he, hwl, fun R went ps2 ks2 nb2 H1 fR nR k1 g1 x1 z1 hR pw pm => ?_⟩
    obtain ⟨hs1, hd1, x2, g2, k2⟩ := x.ended z.nl k1 g1 x1
    walk_at "gs"
    refine i_dp2 hd1 (val_kM (by rw [x.kl]; exact z.nl) hme) ?_
    rw [drop_kM]
    walk_at "gs"
    exact k _ ks2 nb2 _ k2 g2 ⟨d, t, dx, ps2, _, x2, rfl⟩ z1

/-! ### the law's own rows of runs -/
def sp_lpart (K : PySem.W.Frag) : Sp := fun vs H Q _ => ∃ (a : Addr) (b e : Int) (ps : List (Int × Int)),
  vs = [.ref a, .int b, .int e] ∧ Dp K H (.ref a) (.list (ps.map d2)) ∧ ps.length ≤ 100000 ∧
  ∀ l H', Fr H l → Kp [] H H' → LD K H' l ((cut b e ps).map d2) → Q (.ref l) H'
theorem sc_law_part : FnScope ["_law_row", "_law_begin", "_law_stop", "_law_found", "_law_here", "_law_many", "_law_number_here", "_law_low", "_law_high"] ["_law_row", "_law_begin", "_law_stop"] (defScope s_law_part) :=
  ⟨rfl, rfl, rfl, by decide +kernel, rfl, by decide +kernel, by decide +kernel⟩
theorem ok_law_part {P : Program} {w : World} {K : PySem.W.Frag} {mg : Str → Option Value} {base : Heap} (T : Txt K mg) :
    FnG P w K mg base 1 T.a_law_part T.d_law_part ["_law_row", "_law_begin", "_law_stop"] (sp_lpart K) := by
  refine okD T.F_law_part sc_law_part (fun vs H Q E h => ?_) (fun cdv A outer s H vs Q E hr h => ?_)
  · first
      | (obtain ⟨_, rfl, _⟩ := h; rfl)
      | (obtain ⟨_, _, rfl, _⟩ := h; rfl)
      | (obtain ⟨_, _, _, rfl, _⟩ := h; rfl)
      | (obtain ⟨_, _, _, _, rfl, _⟩ := h; rfl)
      | (obtain ⟨_, _, _, _, _, rfl, _⟩ := h; rfl)
      | (obtain ⟨_, _, _, _, _, _, rfl, _⟩ := h; rfl)
      | (obtain ⟨_, _, _, _, _, _, _, rfl, _⟩ := h; rfl)
      | (obtain ⟨_, _, _, _, _, _, _, _, rfl, _⟩ := h; rfl)
      | (obtain ⟨_, _, _, _, _, _, _, _, _, rfl, _⟩ := h; rfl)
      | (obtain ⟨_, _, _, _, _, _, _, _, _, _, rfl, _⟩ := h; rfl)
      | (obtain ⟨_, _, _, _, _, _, _, _, _, _, _, rfl, _⟩ := h; rfl)
      | (obtain ⟨_, _, _, _, _, _, _, _, _, _, _, _, rfl, _⟩ := h; rfl)
      | (obtain ⟨_, _, _, _, _, _, _, _, _, _, _, _, _, rfl, _⟩ := h; rfl)
      | (obtain ⟨_, _, _, _, _, _, _, _, _, _, _, _, _, _, rfl, _⟩ := h; rfl)
      | (obtain ⟨_, _, _, _, _, _, _, _, _, _, _, _, _, _, _, rfl, _⟩ := h; rfl)
      | (obtain ⟨_, _, _, _, _, _, _, _, _, _, _, _, _, _, _, _, rfl, _⟩ := h; rfl)
      | (obtain ⟨_, _, _, _, _, _, _, _, _, _, _, _, _, _, _, _, _, rfl, _⟩ := h; rfl)
      | (obtain ⟨_, _, _, _, _, _, _, _, _, _, _, _, _, _, _, _, _, _, rfl, _⟩ := h; rfl)
      | (obtain ⟨_, _, _, _, _, _, _, _, _, _, _, _, _, _, _, _, _, _, _, rfl, _⟩ := h; rfl)
  · obtain ⟨a, b, e, ps, rfl, ha, hps, k⟩ := h
    cases ha
    rename_i xs hsq hall
    have hlen := dpa_len hall
    rw [List.length_map] at hlen
    have cl_Memory := T.cl_Memory
    have na_Memory_pairs := T.na_Memory_pairs
    have na_Memory_wide := T.na_Memory_wide
    have cl_Ties := T.cl_Ties
    have na_Ties_near := T.na_Ties_near
    have na_Ties_own_ever := T.na_Ties_own_ever
    have na_Ties_own_living := T.na_Ties_own_living
    have cl_Store := T.cl_Store
    have na_Store_kept_by_world := T.na_Store_kept_by_world
    have na_Store_own_size := T.na_Store_own_size
    have na_Store_own_ties := T.na_Store_own_ties
    refine ⟨_, (pss_cons (ps_par (i := 3) (j := 4) (by rfl) sc_law_part.nd rfl rfl (by decide) rfl rfl (pa_cons (pe_lst pa_nil) (pa_cons pe_int pa_nil)) (by rfl))
      (pss_cons (ps_for (passes_of rfl) rfl (k_plist (K := K) rfl (pv 0)) (k_gtup (K := K) 2 rfl rfl (pgs_cons (pg_name (i := 5) sc_law_part.nd rfl (Or.inl rfl)) (pgs_cons (pg_name (i := 6) sc_law_part.nd rfl (Or.inl rfl)) pgs_nil)))
      (pss_cons (ps_par (i := 7) (j := 8) (by rfl) sc_law_part.nd rfl rfl (by decide) rfl rfl (pa_cons (pe_callB (c_max2 rfl) (by rfl) T.n_max (by decide +kernel) (pa_cons (pv 4) (pa_cons (pv 1) pa_nil))) (pa_cons (pe_callB (c_min2 rfl) (by rfl) T.n_min (by decide +kernel) (pa_cons (pe_op (k_add (K := K) rfl) (pv 4) (pv 5)) (pa_cons (pv 2) pa_nil))) pa_nil)) (by rfl))
      (pss_cons (ps_if (pt_cmpR op_lt (pv 7) (pv 8) (nomark _)) (pss_one (ps_expr (pe_bm PySem.F.plainAttrs_list PySem.F.slot_list_append PySem.F.type_list_append mt_append (pv 3) (pa_cons (pe_tup (pa_cons (pe_op op_sub (pv 8) (pv 7)) (pa_cons (pv 6) pa_nil))) pa_nil)))) pss_nil)
      (pss_one (ps_set (i := 4) sc_law_part.nd rfl (Or.inl rfl) (pe_op (k_add (K := K) rfl) (pv 4) (pv 5)))))))
      (pss_one (ps_ret (pv 3))))), ?_⟩
    dsimp only [cxOf, st_1, st_2, st_3, st_4, st_5, st_6, List.length_cons, List.length_nil, List.replicate_succ, List.replicate_zero, Nat.reduceAdd, Nat.reduceSub]
    walk_at "gs"
    refine i_new fun l hl => ?_
    walk_at "gs"
    refine i_each ((Kp.new hl).seqL (ws := []) List.not_mem_nil hsq) (fun i σ H' => ∃ u v w x, σ = [some (.ref a), some (.int b), some (.int e), some (.ref l), some (.int (wide (ps.take i))), u, v, w, x] ∧ Kp [] H H' ∧
      LD K H' l ((cut b e (ps.take i)).map d2)) ?_ ?_ ?_ ?_
    · exact ⟨none, none, none, none, rfl, Kp.new hl, ⟨[], upd_same, .nil⟩⟩
    · rintro i σ H' _ ⟨u, v, w, x, rfl, kp, ld⟩
      exact kp.seqL List.not_mem_nil hsq
    · rintro i x σ H' hx ⟨u, v, w, y, rfl, kp, ld⟩
      obtain ⟨d, hd, hdp⟩ := dpa_getV hall hx
      obtain ⟨p, hp, rfl⟩ := map_get hd
      obtain ⟨pa, rfl, hpt⟩ := dp_pair hdp
      replace hpt := kp.seqT hpt
      obtain ⟨vs, hvs, hall2⟩ := id ld
      have hvl := dpa_len hall2
      rw [List.length_map] at hvl
      have hcl := cut_len b e (ps.take i)
      rw [List.length_take] at hcl
      have hil : i < ps.length := (List.getElem?_eq_some_iff.mp hp).1
      walk_at "gs"
      rw [Int.max_comm (wide (ps.take i)) b, Int.min_comm (wide (ps.take i) + p.1) e]
      refine i_dec (fun c => ?_) (fun c => ?_)
      · walk_at "gs"
        refine i_new fun t ht => ?_
        walk_at "gs"
        rw [wide_take hp, cut_take hp, if_pos c, List.map_append]
        refine ⟨_, _, _, _, rfl, by walk_at "g_kp", ?_⟩
        exact ld_push (ws := [l]) (H0 := H') (by walk_at "g_kp") hall2 (imms_d2 _) upd_same (dp_mk2 (m := min e (wide (ps.take i) + p.1) - max b (wide (ps.take i))) (n := p.2) (by walk_at "g_st"))
      · walk_at "gs"
        rw [wide_take hp, cut_take hp, if_neg c, List.append_nil]
        exact ⟨_, _, _, _, rfl, kp, ld⟩
    · rintro σ H' ⟨u, v, w, x, rfl, kp, ld⟩
      walk_at "gs"
      rw [List.take_of_length_le (by omega)] at ld
      exact k l H' hl kp ld
def sp_among (K : PySem.W.Frag) : Sp := fun vs H Q _ => ∃ (p l : Addr) (xs : List V), vs = [.ref p, .ref l] ∧ PotAt H p ∧ SqL K H l xs ∧ l ≠ p ∧ 0 < xs.length ∧ xs.length ≤ 1000 ∧
  ∀ v H', v ∈ xs → PotAt H' p → Kp [p] H H' → Q v H'
theorem sc_law_among : FnScope ["_law_pot_here", "_law_some"] ["_law_pot_here", "_law_some"] (defScope s_law_among) :=
  ⟨rfl, rfl, rfl, by decide +kernel, rfl, by decide +kernel, by decide +kernel⟩
theorem ok_law_among {P : Program} {w : World} {K : PySem.W.Frag} {mg : Str → Option Value} {base : Heap} (T : Txt K mg) :
    FnG P w K mg base 2 T.a_law_among T.d_law_among ["_law_pot_here", "_law_some"] (sp_among K) := by
  refine okD T.F_law_among sc_law_among (fun vs H Q E h => ?_) (fun cdv A outer s H vs Q E hr h => ?_)
  · first
      | (obtain ⟨_, rfl, _⟩ := h; rfl)
      | (obtain ⟨_, _, rfl, _⟩ := h; rfl)
      | (obtain ⟨_, _, _, rfl, _⟩ := h; rfl)
      | (obtain ⟨_, _, _, _, rfl, _⟩ := h; rfl)
      | (obtain ⟨_, _, _, _, _, rfl, _⟩ := h; rfl)
      | (obtain ⟨_, _, _, _, _, _, rfl, _⟩ := h; rfl)
      | (obtain ⟨_, _, _, _, _, _, _, rfl, _⟩ := h; rfl)
      | (obtain ⟨_, _, _, _, _, _, _, _, rfl, _⟩ := h; rfl)
      | (obtain ⟨_, _, _, _, _, _, _, _, _, rfl, _⟩ := h; rfl)
      | (obtain ⟨_, _, _, _, _, _, _, _, _, _, rfl, _⟩ := h; rfl)
      | (obtain ⟨_, _, _, _, _, _, _, _, _, _, _, rfl, _⟩ := h; rfl)
      | (obtain ⟨_, _, _, _, _, _, _, _, _, _, _, _, rfl, _⟩ := h; rfl)
      | (obtain ⟨_, _, _, _, _, _, _, _, _, _, _, _, _, rfl, _⟩ := h; rfl)
      | (obtain ⟨_, _, _, _, _, _, _, _, _, _, _, _, _, _, rfl, _⟩ := h; rfl)
      | (obtain ⟨_, _, _, _, _, _, _, _, _, _, _, _, _, _, _, rfl, _⟩ := h; rfl)
      | (obtain ⟨_, _, _, _, _, _, _, _, _, _, _, _, _, _, _, _, rfl, _⟩ := h; rfl)
      | (obtain ⟨_, _, _, _, _, _, _, _, _, _, _, _, _, _, _, _, _, rfl, _⟩ := h; rfl)
      | (obtain ⟨_, _, _, _, _, _, _, _, _, _, _, _, _, _, _, _, _, _, rfl, _⟩ := h; rfl)
      | (obtain ⟨_, _, _, _, _, _, _, _, _, _, _, _, _, _, _, _, _, _, _, rfl, _⟩ := h; rfl)
  · obtain ⟨p, l, xs, rfl, hp, hl, np, l0, l1, k⟩ := h
    refine ⟨_, (pss_one (ps_ret (pe_ix (k_ix (K := K) rfl) (pv 1) (d1 (ok_law_take T) (hr.mono (by decide)) (by rfl) T.m_law_take T.F_law_take.kp T.b_law_take passL (pa_cons (pv 0) (pa_cons (pe_callB (k_len (K := K) rfl) (by rfl) T.n_len (by decide +kernel) (pa_cons (pv 1) pa_nil)) pa_nil))) (fun _ _ => rfl)))), ?_⟩
    dsimp only [cxOf, st_1, st_2, st_3, st_4, st_5, st_6, List.length_cons, List.length_nil, List.replicate_succ, List.replicate_zero, Nat.reduceAdd, Nat.reduceSub]
    walk_at "gs"
    refine use_take hp (by omega) (by omega) (fun r H1 r0 r1 hp1 k1 => ?_)
    obtain ⟨r, rfl⟩ := Int.eq_ofNat_of_zero_le r0
    have hr : r < xs.length := by omega
    have hat : atI xs (r : Nat) = some xs[r] := atI_nat (List.getElem?_eq_getElem hr)
    have hl1 : SqL K H1 l xs := k1.seqL (not_one np) hl
    walk_at "gs"
    exact k _ H1 (List.getElem_mem hr) hp1 k1
def sp_wide (K : PySem.W.Frag) : Sp := fun vs H Q _ => ∃ p : Addr, vs = [.ref p] ∧ PotAt H p ∧ ∀ n H', 1 ≤ n → n ≤ 1000000000000000000 → PotAt H' p → Kp [p] H H' → Q (.int n) H'
theorem sc_law_wide : FnScope ["_law_pot_here", "_law_some"] ["_law_pot_here"] (defScope s_law_wide) :=
  ⟨rfl, rfl, rfl, by decide +kernel, rfl, by decide +kernel, by decide +kernel⟩
theorem ok_law_wide {P : Program} {w : World} {K : PySem.W.Frag} {mg : Str → Option Value} {base : Heap} (T : Txt K mg) :
    FnG P w K mg base 2 T.a_law_wide T.d_law_wide ["_law_pot_here"] (sp_wide K) := by
  refine okD T.F_law_wide sc_law_wide (fun vs H Q E h => ?_) (fun cdv A outer s H vs Q E hr h => ?_)
  · first
      | (obtain ⟨_, rfl, _⟩ := h; rfl)
      | (obtain ⟨_, _, rfl, _⟩ := h; rfl)
      | (obtain ⟨_, _, _, rfl, _⟩ := h; rfl)
      | (obtain ⟨_, _, _, _, rfl, _⟩ := h; rfl)
      | (obtain ⟨_, _, _, _, _, rfl, _⟩ := h; rfl)
      | (obtain ⟨_, _, _, _, _, _, rfl, _⟩ := h; rfl)
      | (obtain ⟨_, _, _, _, _, _, _, rfl, _⟩ := h; rfl)
      | (obtain ⟨_, _, _, _, _, _, _, _, rfl, _⟩ := h; rfl)
      | (obtain ⟨_, _, _, _, _, _, _, _, _, rfl, _⟩ := h; rfl)
      | (obtain ⟨_, _, _, _, _, _, _, _, _, _, rfl, _⟩ := h; rfl)
      | (obtain ⟨_, _, _, _, _, _, _, _, _, _, _, rfl, _⟩ := h; rfl)
      | (obtain ⟨_, _, _, _, _, _, _, _, _, _, _, _, rfl, _⟩ := h; rfl)
      | (obtain ⟨_, _, _, _, _, _, _, _, _, _, _, _, _, rfl, _⟩ := h; rfl)
      | (obtain ⟨_, _, _, _, _, _, _, _, _, _, _, _, _, _, rfl, _⟩ := h; rfl)
      | (obtain ⟨_, _, _, _, _, _, _, _, _, _, _, _, _, _, _, rfl, _⟩ := h; rfl)
      | (obtain ⟨_, _, _, _, _, _, _, _, _, _, _, _, _, _, _, _, rfl, _⟩ := h; rfl)
      | (obtain ⟨_, _, _, _, _, _, _, _, _, _, _, _, _, _, _, _, _, rfl, _⟩ := h; rfl)
      | (obtain ⟨_, _, _, _, _, _, _, _, _, _, _, _, _, _, _, _, _, _, rfl, _⟩ := h; rfl)
      | (obtain ⟨_, _, _, _, _, _, _, _, _, _, _, _, _, _, _, _, _, _, _, rfl, _⟩ := h; rfl)
  · obtain ⟨p, rfl, hp, k⟩ := h
    refine ⟨_, (pss_cons (ps_set (i := 1) sc_law_wide.nd rfl (Or.inl rfl) (pe_lst (pa_cons (pe_op (k_add (K := K) rfl) pe_int (d1 (ok_law_take T) (hr.mono (by decide)) (by rfl) T.m_law_take T.F_law_take.kp T.b_law_take passL (pa_cons (pv 0) (pa_cons pe_int pa_nil)))) (pa_cons (pe_op (k_add (K := K) rfl) pe_int (d1 (ok_law_take T) (hr.mono (by decide)) (by rfl) T.m_law_take T.F_law_take.kp T.b_law_take passL (pa_cons (pv 0) (pa_cons pe_int pa_nil)))) (pa_cons (pe_op op_sub (pe_op o_pow pe_int pe_int) (d1 (ok_law_take T) (hr.mono (by decide)) (by rfl) T.m_law_take T.F_law_take.kp T.b_law_take passL (pa_cons (pv 0) (pa_cons pe_int pa_nil)))) (pa_cons (pe_op (k_add (K := K) rfl) pe_int (d1 (ok_law_take T) (hr.mono (by decide)) (by rfl) T.m_law_take T.F_law_take.kp T.b_law_take passL (pa_cons (pv 0) (pa_cons (pe_op o_pow pe_int pe_int) pa_nil)))) pa_nil))))))
      (pss_one (ps_ret (pe_ix (k_ix (K := K) rfl) (pv 1) (d1 (ok_law_take T) (hr.mono (by decide)) (by rfl) T.m_law_take T.F_law_take.kp T.b_law_take passL (pa_cons (pv 0) (pa_cons pe_int pa_nil))) (fun _ _ => rfl))))), ?_⟩
    dsimp only [cxOf, st_1, st_2, st_3, st_4, st_5, st_6, List.length_cons, List.length_nil, List.replicate_succ, List.replicate_zero, Nat.reduceAdd, Nat.reduceSub]
    walk_at "gs"
    refine use_take hp (by decide) (by decide) (fun r1 H1 a1 b1 hp1 k1 => ?_)
    walk_at "gs"
    refine use_take hp1 (by decide) (by decide) (fun r2 H2 a2 b2 hp2 k2 => ?_)
    walk_at "gs"
    refine use_take hp2 (by decide) (by decide) (fun r3 H3 a3 b3 hp3 k3 => ?_)
    walk_at "gs"
    refine use_take hp3 (by decide) (by decide) (fun r4 H4 a4 b4 hp4 k4 => ?_)
    walk_at "gs"
    refine i_new fun L fL => ?_
    have kL := Kp.new (ws := []) (o := HO.lst [V.int (1 + r1), V.int (2 + r2), V.int (1000000000000000000 - r3), V.int (1 + r4)]) fL
    have hL := fresh_at (o := HO.lst [V.int (1 + r1), V.int (2 + r2), V.int (1000000000000000000 - r3), V.int (1 + r4)]) fL
    have hp5 := hp4.kp kL not_nil
    obtain ⟨H5, e5⟩ : ∃ H5, H5 = upd H4 L (.lst [V.int (1 + r1), V.int (2 + r2), V.int (1000000000000000000 - r3), V.int (1 + r4)]) := ⟨_, rfl⟩
    rw [← e5] at kL hL hp5 ⊢
    have nLp : L ≠ p := Ne.symm (hp4.ne fL)
    walk_at "gs"
    refine use_take hp5 (by decide) (by decide) (fun r5 H6 a5 b5 hp6 k6 => ?_)
    have hL6 := k6.at_ _ _ hL (not_one nLp)
    have k06 : Kp [p] H H6 := Kp.trans k1 (Kp.trans k2 (Kp.trans k3 (Kp.trans k4 (Kp.trans kL.wide k6))))
    have c : r5 = 0 ∨ r5 = 1 ∨ r5 = 2 ∨ r5 = 3 := by omega
    rcases c with rfl | rfl | rfl | rfl
    · refine i_ixL (SqL.of hL6) (v := .int (1 + r1)) rfl ?_
      exact k _ H6 (by omega) (by omega) hp6 k06
    · refine i_ixL (SqL.of hL6) (v := .int (2 + r2)) rfl ?_
      exact k _ H6 (by omega) (by omega) hp6 k06
    · refine i_ixL (SqL.of hL6) (v := .int (1000000000000000000 - r3)) rfl ?_
      exact k _ H6 (by omega) (by omega) hp6 k06
    · refine i_ixL (SqL.of hL6) (v := .int (1 + r4)) rfl ?_
      exact k _ H6 (by omega) (by omega) hp6 k06

def sp_ljoined (K : PySem.W.Frag) : Sp := fun vs H Q _ => ∃ (a : Addr) (ps : List (Int × Int)),
  vs = [.ref a] ∧ Dp K H (.ref a) (.list (ps.map d2)) ∧ ps.length ≤ 100000 ∧ (∀ q ∈ ps, 0 < q.1) ∧
  ∀ l H', Fr H l → Kp [] H H' → LD K H' l ((jnd ps).map d2) → Q (.ref l) H'
theorem sc_law_joined : FnScope ["_law_row", "_law_found", "_law_many", "_law_number_here"] ["_law_row"] (defScope s_law_joined) :=
  ⟨rfl, rfl, rfl, by decide +kernel, rfl, by decide +kernel, by decide +kernel⟩
theorem ok_law_joined {P : Program} {w : World} {K : PySem.W.Frag} {mg : Str → Option Value} {base : Heap} (T : Txt K mg) :
    FnG P w K mg base 1 T.a_law_joined T.d_law_joined ["_law_row"] (sp_ljoined K) := by
  refine okD T.F_law_joined sc_law_joined (fun vs H Q E h => ?_) (fun cdv A outer s H vs Q E hr h => ?_)
  · first
      | (obtain ⟨_, rfl, _⟩ := h; rfl)
      | (obtain ⟨_, _, rfl, _⟩ := h; rfl)
      | (obtain ⟨_, _, _, rfl, _⟩ := h; rfl)
      | (obtain ⟨_, _, _, _, rfl, _⟩ := h; rfl)
      | (obtain ⟨_, _, _, _, _, rfl, _⟩ := h; rfl)
      | (obtain ⟨_, _, _, _, _, _, rfl, _⟩ := h; rfl)
      | (obtain ⟨_, _, _, _, _, _, _, rfl, _⟩ := h; rfl)
      | (obtain ⟨_, _, _, _, _, _, _, _, rfl, _⟩ := h; rfl)
      | (obtain ⟨_, _, _, _, _, _, _, _, _, rfl, _⟩ := h; rfl)
      | (obtain ⟨_, _, _, _, _, _, _, _, _, _, rfl, _⟩ := h; rfl)
      | (obtain ⟨_, _, _, _, _, _, _, _, _, _, _, rfl, _⟩ := h; rfl)
      | (obtain ⟨_, _, _, _, _, _, _, _, _, _, _, _, rfl, _⟩ := h; rfl)
      | (obtain ⟨_, _, _, _, _, _, _, _, _, _, _, _, _, rfl, _⟩ := h; rfl)
      | (obtain ⟨_, _, _, _, _, _, _, _, _, _, _, _, _, _, rfl, _⟩ := h; rfl)
      | (obtain ⟨_, _, _, _, _, _, _, _, _, _, _, _, _, _, _, rfl, _⟩ := h; rfl)
      | (obtain ⟨_, _, _, _, _, _, _, _, _, _, _, _, _, _, _, _, rfl, _⟩ := h; rfl)
      | (obtain ⟨_, _, _, _, _, _, _, _, _, _, _, _, _, _, _, _, _, rfl, _⟩ := h; rfl)
      | (obtain ⟨_, _, _, _, _, _, _, _, _, _, _, _, _, _, _, _, _, _, rfl, _⟩ := h; rfl)
      | (obtain ⟨_, _, _, _, _, _, _, _, _, _, _, _, _, _, _, _, _, _, _, rfl, _⟩ := h; rfl)
  · obtain ⟨a, ps, rfl, ha, hps, pos, k⟩ := h
    cases ha
    rename_i xs hsq hall
    have hlen := dpa_len hall
    rw [List.length_map] at hlen
    have cl_Memory := T.cl_Memory
    have na_Memory_pairs := T.na_Memory_pairs
    have na_Memory_wide := T.na_Memory_wide
    have cl_Ties := T.cl_Ties
    have na_Ties_near := T.na_Ties_near
    have na_Ties_own_ever := T.na_Ties_own_ever
    have na_Ties_own_living := T.na_Ties_own_living
    have cl_Store := T.cl_Store
    have na_Store_kept_by_world := T.na_Store_kept_by_world
    have na_Store_own_size := T.na_Store_own_size
    have na_Store_own_ties := T.na_Store_own_ties
    refine ⟨_, (pss_cons (ps_set (i := 1) sc_law_joined.nd rfl (Or.inl rfl) (pe_lst pa_nil))
      (pss_cons (ps_for (passes_of rfl) rfl (k_plist (K := K) rfl (pv 0)) (k_gtup (K := K) 2 rfl rfl (pgs_cons (pg_name (i := 2) sc_law_joined.nd rfl (Or.inl rfl)) (pgs_cons (pg_name (i := 3) sc_law_joined.nd rfl (Or.inl rfl)) pgs_nil)))
      (pss_cons (ps_if (PW.pt (pw_and (pt_cmpR (k_ne (K := K) rfl hr.r.units) (pv 1) (pe_lst pa_nil) (nomark _)) (pw_and1 (pt_cmpR (k_eq (K := K) rfl hr.r.units) (pe_ix (k_ix (K := K) rfl) (pe_ix (k_ix (K := K) rfl) (pv 1) (pe_un un_neg pe_int) (fun _ _ => rfl)) pe_int (fun _ _ => rfl)) (pv 3) (nomark _))))) (pss_one (ps_set (i := 2) sc_law_joined.nd rfl (Or.inl rfl) (pe_op (k_add (K := K) rfl) (pv 2) (pe_ix (k_ix (K := K) rfl) (pe_bm0 PySem.F.plainAttrs_list PySem.F.slot_list_pop PySem.F.type_list_pop mt_pop (pv 1)) pe_int (fun _ _ => rfl))))) pss_nil)
      (pss_one (ps_expr (pe_bm PySem.F.plainAttrs_list PySem.F.slot_list_append PySem.F.type_list_append mt_append (pv 1) (pa_cons (pe_tup (pa_cons (pv 2) (pa_cons (pv 3) pa_nil))) pa_nil))))))
      (pss_one (ps_ret (pv 1))))), ?_⟩
    dsimp only [cxOf, st_1, st_2, st_3, st_4, st_5, st_6, List.length_cons, List.length_nil, List.replicate_succ, List.replicate_zero, Nat.reduceAdd, Nat.reduceSub]
    walk_at "gs"
    refine i_new fun l hl => ?_
    walk_at "gs"
    refine i_each ((Kp.new hl).seqL (ws := []) List.not_mem_nil hsq) (fun i σ H' => ∃ u v, σ = [some (.ref a), some (.ref l), u, v] ∧ Kp [] H H' ∧
      LD K H' l ((jnd (ps.take i)).map d2)) ?_ ?_ ?_ ?_
    · exact ⟨none, none, rfl, Kp.new hl, ⟨[], upd_same, .nil⟩⟩
    · rintro i σ H' _ ⟨u, v, rfl, kp, ld⟩
      exact kp.seqL List.not_mem_nil hsq
    · rintro i x σ H' hx ⟨u, v, rfl, kp, ld⟩
      obtain ⟨d, hd, hdp⟩ := dpa_getV hall hx
      obtain ⟨p, hp, rfl⟩ := map_get hd
      obtain ⟨pa, rfl, hpt⟩ := dp_pair hdp
      replace hpt := kp.seqT hpt
      have h0 := pos p (List.mem_of_getElem? hp)
      obtain ⟨vs, hvs, hall2⟩ := id ld
      have hvl := dpa_len hall2
      rw [List.length_map] at hvl
      have hjl := jnd_len ps i
      have hil : i < ps.length := (List.getElem?_eq_some_iff.mp hp).1
      walk_at "gs"
      refine i_new fun q hq => ?_
      walk_at "gs"
      refine ne_nil ld (imms_d2 _) (shaped_pairs _) hq ?_
      walk_at "gs"
      refine i_boN (fun e => ?_) (fun e => ?_)
      · obtain ⟨f0, q0, hF⟩ := list_last (l := jnd (ps.take i)) (by
          intro z
          rw [z] at e
          cases e)
        rw [hF, List.map_append] at hall2
        obtain ⟨us, x, rfl, hu, hx2⟩ := dpa_last hall2
        obtain ⟨qa, rfl, hqa⟩ := dp_pair hx2
        rw [List.length_append, List.length_singleton] at hvl
        walk_at "gs"
        refine i_dec (fun h1 => ?_) (fun h1 => ?_)
        · walk_at "gs"
          have nlq : l ≠ q := fr_ne hvs hq
          have hl1 : (upd H' q (.lst [])) l = some (.lst (us ++ [V.ref qa])) := by rw [upd_ne nlq]; exact hvs
          refine i_popV hl1 ?_
          walk_at "gs"
          refine i_new fun t ht => ?_
          walk_at "gs"
          refine ⟨_, _, rfl, ?_, _, upd_same, ?_⟩
          · walk_at "g_kp"
          · have kl : Kp [l] H' (upd (upd (upd (upd H' q (.lst [])) l (.lst us)) t (.tup [.int (p.1 + q0.1), .int p.2])) l (.lst (us ++ [V.ref t]))) := by walk_at "g_kp"
            rw [jnd_take hp, hF, jst_same h0 h1, List.map_append, Int.add_comm q0.1 p.1]
            exact dpa_app (dpa_imm kl _ _ (imms_d2 _) hu) (dpa_one (dp_mk2 (by walk_at "g_st")))
        · walk_at "gs"
          refine i_new fun t ht => ?_
          walk_at "gs"
          refine ⟨_, _, rfl, ?_, _, upd_same, ?_⟩
          · walk_at "g_kp"
          · have kl : Kp [l] H' (upd (upd (upd H' q (.lst [])) t (.tup [.int p.1, .int p.2])) l (.lst (us ++ [V.ref qa] ++ [V.ref t]))) := by walk_at "g_kp"
            rw [jnd_take hp, hF, jst_other h0 h1, List.map_append, List.map_append]
            exact dpa_app (dpa_app (dpa_imm kl _ _ (imms_d2 _) hu) (dpa_one (dp_imm kl _ _ rfl hx2))) (dpa_one (dp_mk2 (by walk_at "g_st")))
      · walk_at "gs"
        have hF : jnd (ps.take i) = [] := by
          cases z : jnd (ps.take i) with
          | nil => rfl
          | cons x y =>
            rw [z] at e
            cases e
        refine i_new fun t ht => ?_
        walk_at "gs"
        rw [hF] at hall2
        cases hall2
        refine ⟨_, _, rfl, ?_, _, upd_same, ?_⟩
        · walk_at "g_kp"
        · rw [jnd_take hp, hF, jst_nil h0]
          exact dpa_one (dp_mk2 (by walk_at "g_st"))
    · rintro σ H' ⟨u, v, rfl, kp, ld⟩
      walk_at "gs"
      rw [List.take_of_length_le (by omega)] at ld
      exact k l H' hl kp ld

def sp_with (K : PySem.W.Frag) : Sp := fun vs H Q _ => ∃ (r x : Addr) (b : Int) (cs : List Int) (ps : List (Int × Int)), vs = [.ref r, .int b, .ref x] ∧ LD K H r ((rle cs).map d2) ∧ LD K H x (ps.map d2) ∧ (rle cs).length ≤ 10000 ∧ ps.length ≤ 10000 ∧ (∀ q ∈ ps, 0 < q.1) ∧
  ∀ l H', Fr H l → Kp [] H H' → LD K H' l ((rle (laid cs b.toNat (cells ps) (b + wide ps).toNat)).map d2) → Q (.ref l) H'
theorem sc_law_with : FnScope ["_law_row", "_law_begin", "_law_part_here", "_law_stop", "_law_wide_here", "_law_many", "_law_number_here"] ["_law_row", "_law_begin", "_law_part_here"] (defScope s_law_with) :=
  ⟨rfl, rfl, rfl, by decide +kernel, rfl, by decide +kernel, by decide +kernel⟩
theorem ok_law_with {P : Program} {w : World} {K : PySem.W.Frag} {mg : Str → Option Value} {base : Heap} (T : Txt K mg) :
    FnG P w K mg base 2 T.a_law_with T.d_law_with ["_law_row", "_law_begin", "_law_part_here"] (sp_with K) := by
  refine okD T.F_law_with sc_law_with (fun vs H Q E h => ?_) (fun cdv A outer s H vs Q E hr h => ?_)
  · first
      | (obtain ⟨_, rfl, _⟩ := h; rfl)
      | (obtain ⟨_, _, rfl, _⟩ := h; rfl)
      | (obtain ⟨_, _, _, rfl, _⟩ := h; rfl)
      | (obtain ⟨_, _, _, _, rfl, _⟩ := h; rfl)
      | (obtain ⟨_, _, _, _, _, rfl, _⟩ := h; rfl)
      | (obtain ⟨_, _, _, _, _, _, rfl, _⟩ := h; rfl)
      | (obtain ⟨_, _, _, _, _, _, _, rfl, _⟩ := h; rfl)
      | (obtain ⟨_, _, _, _, _, _, _, _, rfl, _⟩ := h; rfl)
      | (obtain ⟨_, _, _, _, _, _, _, _, _, rfl, _⟩ := h; rfl)
      | (obtain ⟨_, _, _, _, _, _, _, _, _, _, rfl, _⟩ := h; rfl)
      | (obtain ⟨_, _, _, _, _, _, _, _, _, _, _, rfl, _⟩ := h; rfl)
      | (obtain ⟨_, _, _, _, _, _, _, _, _, _, _, _, rfl, _⟩ := h; rfl)
      | (obtain ⟨_, _, _, _, _, _, _, _, _, _, _, _, _, rfl, _⟩ := h; rfl)
      | (obtain ⟨_, _, _, _, _, _, _, _, _, _, _, _, _, _, rfl, _⟩ := h; rfl)
      | (obtain ⟨_, _, _, _, _, _, _, _, _, _, _, _, _, _, _, rfl, _⟩ := h; rfl)
      | (obtain ⟨_, _, _, _, _, _, _, _, _, _, _, _, _, _, _, _, rfl, _⟩ := h; rfl)
      | (obtain ⟨_, _, _, _, _, _, _, _, _, _, _, _, _, _, _, _, _, rfl, _⟩ := h; rfl)
      | (obtain ⟨_, _, _, _, _, _, _, _, _, _, _, _, _, _, _, _, _, _, rfl, _⟩ := h; rfl)
      | (obtain ⟨_, _, _, _, _, _, _, _, _, _, _, _, _, _, _, _, _, _, _, rfl, _⟩ := h; rfl)
  · obtain ⟨r, x, b, cs, ps, rfl, lr, lx, hn, hp, pos, k⟩ := h
    obtain ⟨rv, hrw, ar⟩ := id lr
    obtain ⟨xv, hx, ax⟩ := id lx
    have lrv := dpa_len ar
    have lxv := dpa_len ax
    rw [List.length_map] at lrv lxv
    have n1 := cut_len 0 b (rle cs)
    have n2 := cut_len (b + wide ps) cs.length (rle cs)
    refine ⟨_, (pss_cons (ps_set (i := 3) sc_law_with.nd rfl (Or.inl rfl) (pe_op (k_add (K := K) rfl) (pv 1) (pe_callB (k_sum (K := K) rfl rfl) (by rfl) T.n_sum (by decide +kernel) (pa_cons (pe_lc (own := [("_law_many", 5), ("_law_number_here", 6)]) (g := (gTup K 2 (gCons (gName 5) (gCons (gName 6) gNil)))) (tt := tYes) rfl sc_law_with.nd (k_plist (K := K) rfl (pv 2)) (blkOk_by (own := [("_law_many", 5), ("_law_number_here", 6)]) (N := ["_law_row", "_law_begin", "_law_part_here", "_law_stop", "_law_wide_here", "_law_many", "_law_number_here"]) (sc := defScope s_law_with) (by decide +kernel)) (fun _ _ _ _ _ => (k_gtup (K := K) 2 rfl rfl (pgs_cons (pg_name (i := 5) sc_law_with.nd rfl (Or.inl rfl)) (pgs_cons (pg_name (i := 6) sc_law_with.nd rfl (Or.inl rfl)) pgs_nil)))) (fun _ _ _ _ _ => pts_nil) (fun _ _ _ _ _ => (pv 5))) pa_nil))))
      (pss_cons (ps_set (i := 4) sc_law_with.nd rfl (Or.inl rfl) (pe_callB (k_sum (K := K) rfl rfl) (by rfl) T.n_sum (by decide +kernel) (pa_cons (pe_lc (own := [("_law_many", 5), ("_law_number_here", 6)]) (g := (gTup K 2 (gCons (gName 5) (gCons (gName 6) gNil)))) (tt := tYes) rfl sc_law_with.nd (k_plist (K := K) rfl (pv 0)) (blkOk_by (own := [("_law_many", 5), ("_law_number_here", 6)]) (N := ["_law_row", "_law_begin", "_law_part_here", "_law_stop", "_law_wide_here", "_law_many", "_law_number_here"]) (sc := defScope s_law_with) (by decide +kernel)) (fun _ _ _ _ _ => (k_gtup (K := K) 2 rfl rfl (pgs_cons (pg_name (i := 5) sc_law_with.nd rfl (Or.inl rfl)) (pgs_cons (pg_name (i := 6) sc_law_with.nd rfl (Or.inl rfl)) pgs_nil)))) (fun _ _ _ _ _ => pts_nil) (fun _ _ _ _ _ => (pv 5))) pa_nil)))
      (pss_one (ps_ret (d1 (ok_law_joined T) (hr.mono (by decide)) (by rfl) T.m_law_joined T.F_law_joined.kp T.b_law_joined passL (pa_cons (pe_op (k_add (K := K) rfl) (pe_op (k_add (K := K) rfl) (d1 (ok_law_part T) (hr.mono (by decide)) (by rfl) T.m_law_part T.F_law_part.kp T.b_law_part passL (pa_cons (pv 0) (pa_cons pe_int (pa_cons (pv 1) pa_nil)))) (pv 2)) (d1 (ok_law_part T) (hr.mono (by decide)) (by rfl) T.m_law_part T.F_law_part.kp T.b_law_part passL (pa_cons (pv 0) (pa_cons (pv 3) (pa_cons (pv 4) pa_nil))))) pa_nil)))))), ?_⟩
    dsimp only [cxOf, st_1, st_2, st_3, st_4, st_5, st_6, List.length_cons, List.length_nil, List.replicate_succ, List.replicate_zero, Nat.reduceAdd, Nat.reduceSub]
    walk_at "gs"
    refine i_mapL (SqL.of hx) ((ps.map (·.1)).map V.int) (by rw [List.length_map, List.length_map]; omega) (by omega) ?_ ?_
    · intro D i y z H' Q' fD hy hz k3 q
      obtain ⟨d, hd, hdp⟩ := dpa_getV ax hy
      obtain ⟨p, hp, rfl⟩ := map_get hd
      obtain ⟨t, rfl, hT⟩ := dp_pair (dp_imm k3 _ _ rfl hdp)
      rw [List.getElem?_map, List.getElem?_map, hp] at hz
      cases hz
      walk_at "gs"
      exact q H' Kp.refl
    intro D1 H1 fD1 k1 e1
    walk_at "gs"
    refine i_sum (SqL.of e1) ?_
    rw [show (ps.map (·.1)).sum = wide ps from rfl]
    have hr1 := k1.at_ _ _ hrw not_nil
    walk_at "gs"
    refine i_mapL (SqL.of hr1) (((rle cs).map (·.1)).map V.int) (by rw [List.length_map, List.length_map]; omega) (by omega) ?_ ?_
    · intro D i y z H' Q' fD hy hz k3 q
      obtain ⟨d, hd, hdp⟩ := dpa_getV ar hy
      obtain ⟨p, hp, rfl⟩ := map_get hd
      obtain ⟨t, rfl, hT⟩ := dp_pair (dp_imm (Kp.trans k1 k3) _ _ rfl hdp)
      rw [List.getElem?_map, List.getElem?_map, hp] at hz
      cases hz
      walk_at "gs"
      exact q H' Kp.refl
    intro D2 H2 fD2 k2 e2
    walk_at "gs"
    refine i_sum (SqL.of e2) ?_
    rw [show ((rle cs).map (·.1)).sum = cs.length from wide_rle cs]
    have k02 := Kp.trans k1 k2
    have lr2 := lr.kp k02 (imms_d2 _) not_nil
    walk_at "gs"
    refine ⟨r, 0, b, rle cs, rfl, lr2.dp, by omega, fun f H3 hf k3 lf => ?_⟩
    have k03 := Kp.trans k02 k3
    obtain ⟨fv, hfv, af⟩ := id lf
    have hx3 := k03.at_ _ _ hx not_nil
    have lfv := dpa_len af
    rw [List.length_map] at lfv
    walk_at "gs"
    refine i_new fun s hs => ?_
    have kS := Kp.new (ws := []) (o := HO.lst (fv ++ xv)) hs
    have hS := fresh_at (o := HO.lst (fv ++ xv)) hs
    obtain ⟨H4, e4⟩ : ∃ H4, H4 = upd H3 s (.lst (fv ++ xv)) := ⟨_, rfl⟩
    rw [← e4] at kS hS ⊢
    have k04 := Kp.trans k03 kS
    have lr4 := lr.kp k04 (imms_d2 _) not_nil
    walk_at "gs"
    refine ⟨r, b + wide ps, cs.length, rle cs, rfl, lr4.dp, by omega, fun g H5 hg k5 lg => ?_⟩
    obtain ⟨gv, hgv, ag⟩ := id lg
    have lgv := dpa_len ag
    rw [List.length_map] at lgv
    have hS5 := k5.at_ _ _ hS not_nil
    walk_at "gs"
    refine i_new fun u hu => ?_
    have kU := Kp.new (ws := []) (o := HO.lst (fv ++ xv ++ gv)) hu
    have hU := fresh_at (o := HO.lst (fv ++ xv ++ gv)) hu
    obtain ⟨H6, e6⟩ : ∃ H6, H6 = upd H5 u (.lst (fv ++ xv ++ gv)) := ⟨_, rfl⟩
    rw [← e6] at kU hU ⊢
    have k36 := Kp.trans kS (Kp.trans k5 kU)
    have k06 := Kp.trans k03 k36
    walk_at "gs"
    refine ⟨u, cut 0 b (rle cs) ++ ps ++ cut (b + wide ps) cs.length (rle cs), rfl, LD.dp ⟨_, hU, ?_⟩, ?_, fun q hq => ?_, fun l H7 hl k7 ll => ?_⟩
    · rw [List.map_append, List.map_append]
      exact dpa_app (dpa_app (dpa_imm k36 _ _ (imms_d2 _) af) (dpa_imm k06 _ _ (imms_d2 _) ax)) (dpa_imm kU _ _ (imms_d2 _) ag)
    · rw [List.length_append, List.length_append]
      omega
    · rcases List.mem_append.mp hq with h | h
      · rcases List.mem_append.mp h with h | h
        · exact cutF_pos _ _ _ _ _ h
        · exact pos q h
      · exact cutF_pos _ _ _ _ _ h
    rw [laid_rle] at ll
    walk_at "gs"
    exact k l H7 (k06.free hl) (Kp.trans k06 k7) ll

theorem i_pw40 {H : Hp} {Q : VK} (h : Q (.int 10000000000000000000000000000000000000000) H) : rPow (.int 10) (.int 40) H Q := pow_go rfl (by decide) h
def okM (v : Int) : Prop := -10000000000000000000000000000000000000000 ≤ v ∧ v ≤ 10000000000000000000000000000000000000000
def sp_lnumber (K : PySem.W.Frag) : Sp := fun vs H Q _ => ∃ p : Addr, vs = [.ref p] ∧ PotAt H p ∧ ∀ v H', okM v → PotAt H' p → Kp [p] H H' → Q (.int v) H'
theorem sc_law_number : FnScope ["_law_pot_here", "_law_small", "_law_far"] ["_law_pot_here"] (defScope s_law_number) :=
  ⟨rfl, rfl, rfl, by decide +kernel, rfl, by decide +kernel, by decide +kernel⟩
theorem ok_law_number {P : Program} {w : World} {K : PySem.W.Frag} {mg : Str → Option Value} {base : Heap} (T : Txt K mg) :
    FnG P w K mg base 2 T.a_law_number T.d_law_number ["_law_pot_here"] (sp_lnumber K) := by
  refine okD T.F_law_number sc_law_number (fun vs H Q E h => ?_) (fun cdv A outer s H vs Q E hr h => ?_)
  · first
      | (obtain ⟨_, rfl, _⟩ := h; rfl)
      | (obtain ⟨_, _, rfl, _⟩ := h; rfl)
      | (obtain ⟨_, _, _, rfl, _⟩ := h; rfl)
      | (obtain ⟨_, _, _, _, rfl, _⟩ := h; rfl)
      | (obtain ⟨_, _, _, _, _, rfl, _⟩ := h; rfl)
      | (obtain ⟨_, _, _, _, _, _, rfl, _⟩ := h; rfl)
      | (obtain ⟨_, _, _, _, _, _, _, rfl, _⟩ := h; rfl)
      | (obtain ⟨_, _, _, _, _, _, _, _, rfl, _⟩ := h; rfl)
      | (obtain ⟨_, _, _, _, _, _, _, _, _, rfl, _⟩ := h; rfl)
      | (obtain ⟨_, _, _, _, _, _, _, _, _, _, rfl, _⟩ := h; rfl)
      | (obtain ⟨_, _, _, _, _, _, _, _, _, _, _, rfl, _⟩ := h; rfl)
      | (obtain ⟨_, _, _, _, _, _, _, _, _, _, _, _, rfl, _⟩ := h; rfl)
      | (obtain ⟨_, _, _, _, _, _, _, _, _, _, _, _, _, rfl, _⟩ := h; rfl)
      | (obtain ⟨_, _, _, _, _, _, _, _, _, _, _, _, _, _, rfl, _⟩ := h; rfl)
      | (obtain ⟨_, _, _, _, _, _, _, _, _, _, _, _, _, _, _, rfl, _⟩ := h; rfl)
      | (obtain ⟨_, _, _, _, _, _, _, _, _, _, _, _, _, _, _, _, rfl, _⟩ := h; rfl)
      | (obtain ⟨_, _, _, _, _, _, _, _, _, _, _, _, _, _, _, _, _, rfl, _⟩ := h; rfl)
      | (obtain ⟨_, _, _, _, _, _, _, _, _, _, _, _, _, _, _, _, _, _, rfl, _⟩ := h; rfl)
      | (obtain ⟨_, _, _, _, _, _, _, _, _, _, _, _, _, _, _, _, _, _, _, rfl, _⟩ := h; rfl)
  · obtain ⟨p, rfl, hp, k⟩ := h
    refine ⟨_, (pss_cons (ps_par (i := 1) (j := 2) (by rfl) sc_law_number.nd rfl rfl (by decide) rfl rfl (pa_cons (d1 (ok_law_take T) (hr.mono (by decide)) (by rfl) T.m_law_take T.F_law_take.kp T.b_law_take passL (pa_cons (pv 0) (pa_cons pe_int pa_nil))) (pa_cons (pe_op op_sub (d1 (ok_law_take T) (hr.mono (by decide)) (by rfl) T.m_law_take T.F_law_take.kp T.b_law_take passL (pa_cons (pv 0) (pa_cons (pe_op o_mul pe_int (pe_op o_pow pe_int pe_int)) pa_nil))) (pe_op o_pow pe_int pe_int)) pa_nil)) (by rfl))
      (pss_one (ps_ret (pe_ix (k_ix (K := K) rfl) (pe_lst (pa_cons (pv 1) (pa_cons (pv 1) (pa_cons (pe_op op_sub (pv 1) pe_int) (pa_cons (pv 2) pa_nil))))) (d1 (ok_law_take T) (hr.mono (by decide)) (by rfl) T.m_law_take T.F_law_take.kp T.b_law_take passL (pa_cons (pv 0) (pa_cons pe_int pa_nil))) (fun _ _ => rfl))))), ?_⟩
    dsimp only [cxOf, st_1, st_2, st_3, st_4, st_5, st_6, List.length_cons, List.length_nil, List.replicate_succ, List.replicate_zero, Nat.reduceAdd, Nat.reduceSub]
    walk_at "gs"
    refine use_take hp (by decide) (by decide) (fun r1 H1 a1 b1 hp1 k1 => ?_)
    walk_at "gs"
    refine i_pw40 ?_
    walk_at "gs"
    refine use_take hp1 (by decide) (by decide) (fun r2 H2 a2 b2 hp2 k2 => ?_)
    walk_at "gs"
    refine i_pw40 ?_
    walk_at "gs"
    refine i_new fun L fL => ?_
    have kL := Kp.new (ws := []) (o := HO.lst [V.int r1, V.int r1, V.int (r1 - 1), V.int (r2 - 10000000000000000000000000000000000000000)]) fL
    have hL := fresh_at (o := HO.lst [V.int r1, V.int r1, V.int (r1 - 1), V.int (r2 - 10000000000000000000000000000000000000000)]) fL
    have hp5 := hp2.kp kL not_nil
    obtain ⟨H5, e5⟩ : ∃ H5, H5 = upd H2 L (.lst [V.int r1, V.int r1, V.int (r1 - 1), V.int (r2 - 10000000000000000000000000000000000000000)]) := ⟨_, rfl⟩
    rw [← e5] at kL hL hp5 ⊢
    have nLp : L ≠ p := Ne.symm (hp2.ne fL)
    walk_at "gs"
    refine use_take hp5 (by decide) (by decide) (fun r5 H6 a5 b5 hp6 k6 => ?_)
    have hL6 := k6.at_ _ _ hL (not_one nLp)
    have k06 : Kp [p] H H6 := Kp.trans k1 (Kp.trans k2 (Kp.trans kL.wide k6))
    have c : r5 = 0 ∨ r5 = 1 ∨ r5 = 2 ∨ r5 = 3 := by omega
    rcases c with rfl | rfl | rfl | rfl
    · refine i_ixL (SqL.of hL6) (v := .int r1) rfl ?_
      exact k _ H6 ⟨by omega, by omega⟩ hp6 k06
    · refine i_ixL (SqL.of hL6) (v := .int r1) rfl ?_
      exact k _ H6 ⟨by omega, by omega⟩ hp6 k06
    · refine i_ixL (SqL.of hL6) (v := .int (r1 - 1)) rfl ?_
      exact k _ H6 ⟨by omega, by omega⟩ hp6 k06
    · refine i_ixL (SqL.of hL6) (v := .int (r2 - 10000000000000000000000000000000000000000)) rfl ?_
      exact k _ H6 ⟨by omega, by omega⟩ hp6 k06

/-! ### the law's own model -/
def mKs (n e : Int) (L N R : Addr) : List (Key × V) := [(.inr "wide", .int n), (.inr "ever", .int e), (.inr "living", .ref L), (.inr "near", .ref N), (.inr "rows", .ref R)]
theorem mKs_merge {n e : Int} {L N R : Addr} : mergeK [] (mKs n e L N R) = mKs n e L N R := rfl
theorem mKs_wide {n e : Int} {L N R : Addr} : valV (mKs n e L N R) (.inr "wide") = some (.int n) := rfl
theorem mKs_ever {n e : Int} {L N R : Addr} : valV (mKs n e L N R) (.inr "ever") = some (.int e) := rfl
theorem mKs_living {n e : Int} {L N R : Addr} : valV (mKs n e L N R) (.inr "living") = some (.ref L) := rfl
theorem mKs_near {n e : Int} {L N R : Addr} : valV (mKs n e L N R) (.inr "near") = some (.ref N) := rfl
theorem mKs_rows {n e : Int} {L N R : Addr} : valV (mKs n e L N R) (.inr "rows") = some (.ref R) := rfl
theorem mKs_put {n e e' : Int} {L N R : Addr} : putK (mKs n e L N R) (.inr "ever") (.int e') = mKs n e' L N R := rfl
def DispM (p : Addr) (Q : VK) (v1 v2 v3 v4 v5 : V) (H : Hp) : Prop := H p = some (.dK []) ∧ ∃ kvs : List (Key × V), [(V.str "wide", v1), (V.str "ever", v2), (V.str "living", v3), (V.str "near", v4), (V.str "rows", v5)] = kvs.map (fun kv => (kV kv.1, kv.2)) ∧ kvs.length ≤ 15 ∧ Q (.ref p) (upd H p (.dK (mergeK [] kvs)))
theorem i_dispM {σ : L2.St} {H : Hp} {Q : VK} {t1 t2 t3 t4 t5 : TE} (q : ∀ p, Fr H p → t1 σ (upd H p (.dK [])) fun v1 H1 => t2 σ H1 fun v2 H2 => t3 σ H2 fun v3 H3 => t4 σ H3 fun v4 H4 => t5 σ H4 fun v5 H5 => DispM p Q v1 v2 v3 v4 v5 H5) :
    tDisp [(tC (.str "wide"), t1), (tC (.str "ever"), t2), (tC (.str "living"), t3), (tC (.str "near"), t4), (tC (.str "rows"), t5)] σ H Q := fun p hp => q p ⟨hp⟩
theorem i_dispMe {p : Addr} {Q : VK} {n e : Int} {L N R : Addr} {H : Hp} (h : H p = some (.dK [])) (q : Q (.ref p) (upd H p (.dK (mKs n e L N R)))) : DispM p Q (.int n) (.int e) (.ref L) (.ref N) (.ref R) H := ⟨h, mKs n e L N R, rfl, by show 5 ≤ 15; decide, q⟩
/-- own things of the model: its dicts, the list of the living, the lists of neighbours; the rows are never written -/
def ownM (md L N R : Addr) (rep : List (Int × Addr)) : List Addr := md :: L :: N :: R :: rep.map (·.2)
structure MoX (K : PySem.W.Frag) (H : Hp) (md L N R : Addr) (rep rws : List (Int × Addr)) (n ever : Int) (liv : List Int) (nb : Int → List Int) (c : Int → List Int) : Prop where
  hm : H md = some (.dK (mKs n ever L N R))
  hl : H L = some (.lst (liv.map V.int))
  hn : H N = some (.dK (rep.map kA))
  hr : H R = some (.dK (rws.map kA))
  nr : ∀ p ∈ rep, H p.2 = some (.lst ((nb p.1).map V.int))
  rr : ∀ p ∈ rws, LD K H p.2 ((rle (c p.1)).map d2) ∧ p.2 ∉ ownM md L N R rep
  nk : (rep.map (·.1)).Nodup
  ad : (ownM md L N R rep).Nodup
def sp_model (K : PySem.W.Frag) : Sp := fun vs H Q _ => ∃ n : Int, vs = [.int n] ∧ 1 ≤ n ∧ ∀ md L N R rep rws H', (∀ b ∈ ownM md L N R rep, Fr H b) → Kp [] H H' → rep.map (·.1) = [0] → rws.map (·.1) = [0] → MoX K H' md L N R rep rws n 1 [0] (fun _ => []) (fun _ => List.replicate n.toNat 0) → Q (.ref md) H'
theorem sc_law_model : FnScope ["_law_wide_here"] ["_law_wide_here"] (defScope s_law_model) :=
  ⟨rfl, rfl, rfl, by decide +kernel, rfl, by decide +kernel, by decide +kernel⟩
theorem ok_law_model {P : Program} {w : World} {K : PySem.W.Frag} {mg : Str → Option Value} {base : Heap} (T : Txt K mg) :
    FnG P w K mg base 1 T.a_law_model T.d_law_model ["_law_wide_here"] (sp_model K) := by
  refine okD T.F_law_model sc_law_model (fun vs H Q E h => ?_) (fun cdv A outer s H vs Q E hr h => ?_)
  · first
      | (obtain ⟨_, rfl, _⟩ := h; rfl)
      | (obtain ⟨_, _, rfl, _⟩ := h; rfl)
      | (obtain ⟨_, _, _, rfl, _⟩ := h; rfl)
      | (obtain ⟨_, _, _, _, rfl, _⟩ := h; rfl)
      | (obtain ⟨_, _, _, _, _, rfl, _⟩ := h; rfl)
      | (obtain ⟨_, _, _, _, _, _, rfl, _⟩ := h; rfl)
      | (obtain ⟨_, _, _, _, _, _, _, rfl, _⟩ := h; rfl)
      | (obtain ⟨_, _, _, _, _, _, _, _, rfl, _⟩ := h; rfl)
      | (obtain ⟨_, _, _, _, _, _, _, _, _, rfl, _⟩ := h; rfl)
      | (obtain ⟨_, _, _, _, _, _, _, _, _, _, rfl, _⟩ := h; rfl)
      | (obtain ⟨_, _, _, _, _, _, _, _, _, _, _, rfl, _⟩ := h; rfl)
      | (obtain ⟨_, _, _, _, _, _, _, _, _, _, _, _, rfl, _⟩ := h; rfl)
      | (obtain ⟨_, _, _, _, _, _, _, _, _, _, _, _, _, rfl, _⟩ := h; rfl)
      | (obtain ⟨_, _, _, _, _, _, _, _, _, _, _, _, _, _, rfl, _⟩ := h; rfl)
      | (obtain ⟨_, _, _, _, _, _, _, _, _, _, _, _, _, _, _, rfl, _⟩ := h; rfl)
      | (obtain ⟨_, _, _, _, _, _, _, _, _, _, _, _, _, _, _, _, rfl, _⟩ := h; rfl)
      | (obtain ⟨_, _, _, _, _, _, _, _, _, _, _, _, _, _, _, _, _, rfl, _⟩ := h; rfl)
      | (obtain ⟨_, _, _, _, _, _, _, _, _, _, _, _, _, _, _, _, _, _, rfl, _⟩ := h; rfl)
      | (obtain ⟨_, _, _, _, _, _, _, _, _, _, _, _, _, _, _, _, _, _, _, rfl, _⟩ := h; rfl)
  · obtain ⟨n, rfl, hn, k⟩ := h
    refine ⟨_, (pss_one (ps_ret (pe_disp (pps_cons pe_str (pv 0) (pps_cons pe_str pe_int (pps_cons pe_str (pe_lst (pa_cons pe_int pa_nil)) (pps_cons pe_str (pe_disp (pps_cons pe_int (pe_lst pa_nil) pps_nil) (by rfl) (by rfl) (fun z => by cases z) (by decide)) (pps_cons pe_str (pe_disp (pps_cons pe_int (pe_lst (pa_cons (pe_tup (pa_cons (pv 0) (pa_cons pe_int pa_nil))) pa_nil)) pps_nil) (by rfl) (by rfl) (fun z => by cases z) (by decide)) pps_nil))))) (by rfl) (by rfl) (fun z => by cases z) (by decide)))), ?_⟩
    dsimp only [cxOf, st_1, st_2, st_3, st_4, st_5, st_6, List.length_cons, List.length_nil, List.replicate_succ, List.replicate_zero, Nat.reduceAdd, Nat.reduceSub]
    walk_at "gs"
    refine i_dispM fun md fmd => ?_
    have hmd := fresh_at (o := HO.dK []) fmd
    have k1 := Kp.new (ws := []) (o := HO.dK []) fmd
    obtain ⟨H1, e1⟩ : ∃ H1, H1 = upd H md (.dK []) := ⟨_, rfl⟩
    rw [← e1] at k1 hmd ⊢
    walk_at "gs"
    refine i_new fun L fL => ?_
    have hL := fresh_at (o := HO.lst [.int 0]) fL
    have k2 := Kp.new (ws := []) (o := HO.lst [.int 0]) fL
    obtain ⟨H2, e2⟩ : ∃ H2, H2 = upd H1 L (.lst [.int 0]) := ⟨_, rfl⟩
    rw [← e2] at k2 hL ⊢
    walk_at "gs"
    refine i_disp1 fun N fN => ?_
    have hN := fresh_at (o := HO.dK []) fN
    have k3 := Kp.new (ws := []) (o := HO.dK []) fN
    obtain ⟨H3, e3⟩ : ∃ H3, H3 = upd H2 N (.dK []) := ⟨_, rfl⟩
    rw [← e3] at k3 hN ⊢
    walk_at "gs"
    refine i_new fun A fA => ?_
    have hA := fresh_at (o := HO.lst []) fA
    have k4 := Kp.new (ws := []) (o := HO.lst []) fA
    have hN4 := k4.at_ _ _ hN not_nil
    obtain ⟨H4, e4⟩ : ∃ H4, H4 = upd H3 A (.lst []) := ⟨_, rfl⟩
    rw [← e4] at k4 hA hN4 ⊢
    refine i_disp1e hN4 ?_
    have kN : Kp [N] H4 (upd H4 N (.dK [(.inl 0, .ref A)])) := kp_set hN4 (fun z => z)
    have hN5 : (upd H4 N (.dK [(.inl 0, .ref A)])) N = some (.dK [(.inl 0, .ref A)]) := upd_same
    obtain ⟨H5, e5⟩ : ∃ H5, H5 = upd H4 N (.dK [(.inl 0, .ref A)]) := ⟨_, rfl⟩
    rw [← e5] at kN hN5 ⊢
    refine i_disp1 fun R fR => ?_
    have hR := fresh_at (o := HO.dK []) fR
    have k6 := Kp.new (ws := []) (o := HO.dK []) fR
    obtain ⟨H6, e6⟩ : ∃ H6, H6 = upd H5 R (.dK []) := ⟨_, rfl⟩
    rw [← e6] at k6 hR ⊢
    walk_at "gs"
    refine i_new fun t ft => ?_
    have ht := fresh_at (o := HO.tup [.int n, .int 0]) ft
    have k7 := Kp.new (ws := []) (o := HO.tup [.int n, .int 0]) ft
    obtain ⟨H7, e7⟩ : ∃ H7, H7 = upd H6 t (.tup [.int n, .int 0]) := ⟨_, rfl⟩
    rw [← e7] at k7 ht ⊢
    walk_at "gs"
    refine i_new fun W fW => ?_
    have hW := fresh_at (o := HO.lst [.ref t]) fW
    have k8 := Kp.new (ws := []) (o := HO.lst [.ref t]) fW
    obtain ⟨H8, e8⟩ : ∃ H8, H8 = upd H7 W (.lst [.ref t]) := ⟨_, rfl⟩
    rw [← e8] at k8 hW ⊢
    have hR8 := (Kp.trans k7 k8).at_ _ _ hR not_nil
    refine i_disp1e hR8 ?_
    have kR : Kp [R] H8 (upd H8 R (.dK [(.inl 0, .ref W)])) := kp_set hR8 (fun z => z)
    have hR9 : (upd H8 R (.dK [(.inl 0, .ref W)])) R = some (.dK [(.inl 0, .ref W)]) := upd_same
    obtain ⟨H9, e9⟩ : ∃ H9, H9 = upd H8 R (.dK [(.inl 0, .ref W)]) := ⟨_, rfl⟩
    rw [← e9] at kR hR9 ⊢
    have nmL : md ≠ L := fr_ne hmd fL
    have hmd2 := k2.at_ _ _ hmd not_nil
    have nmN : md ≠ N := fr_ne hmd2 fN
    have hmd3 := k3.at_ _ _ hmd2 not_nil
    have nmA : md ≠ A := fr_ne hmd3 fA
    have hmd5 := kN.at_ _ _ (k4.at_ _ _ hmd3 not_nil) (not_one nmN)
    have nmR : md ≠ R := fr_ne hmd5 fR
    have hmd9 := kR.at_ _ _ ((Kp.trans k6 (Kp.trans k7 k8)).at_ _ _ hmd5 not_nil) (not_one nmR)
    have nLN : L ≠ N := fr_ne hL fN
    have hL3 := k3.at_ _ _ hL not_nil
    have nLA : L ≠ A := fr_ne hL3 fA
    have hL5 := kN.at_ _ _ (k4.at_ _ _ hL3 not_nil) (not_one nLN)
    have nLR : L ≠ R := fr_ne hL5 fR
    have hL9 := kR.at_ _ _ ((Kp.trans k6 (Kp.trans k7 k8)).at_ _ _ hL5 not_nil) (not_one nLR)
    have nNA : N ≠ A := fr_ne hN fA
    have nNR : N ≠ R := fr_ne hN5 fR
    have hN9 := kR.at_ _ _ ((Kp.trans k6 (Kp.trans k7 k8)).at_ _ _ hN5 not_nil) (not_one nNR)
    have hA5 := kN.at_ _ _ hA (not_one (Ne.symm nNA))
    have nAR : A ≠ R := fr_ne hA5 fR
    have hA9 := kR.at_ _ _ ((Kp.trans k6 (Kp.trans k7 k8)).at_ _ _ hA5 not_nil) (not_one nAR)
    refine i_dispMe hmd9 ?_
    have k04 := Kp.trans k1 (Kp.trans k2 (Kp.trans k3 k4))
    have k05 : Kp [] H H5 := Kp.drop (Kp.trans k04.wide kN) ((Kp.trans k1 k2).free fN)
    have k68 := Kp.trans k6 (Kp.trans k7 k8)
    have k09 : Kp [] H H9 := Kp.drop (Kp.trans (Kp.trans k05 k68).wide kR) (k05.free fR)
    have kM : Kp [md] H9 (upd H9 md (.dK (mKs n 1 L N R))) := kp_set hmd9 (fun z => z)
    have k010 : Kp [] H (upd H9 md (.dK (mKs n 1 L N R))) := Kp.drop (Kp.trans k09.wide kM) fmd
    have k67 := Kp.trans k6 k7
    have nmW : md ≠ W := fr_ne (k67.at_ _ _ hmd5 not_nil) fW
    have nLW : L ≠ W := fr_ne (k67.at_ _ _ hL5 not_nil) fW
    have nNW : N ≠ W := fr_ne (k67.at_ _ _ hN5 not_nil) fW
    have nRW : R ≠ W := fr_ne (k7.at_ _ _ hR not_nil) fW
    have nAW : A ≠ W := fr_ne (k67.at_ _ _ hA5 not_nil) fW
    have hW9 := kM.at_ _ _ (kR.at_ _ _ hW (not_one (Ne.symm nRW))) (not_one (Ne.symm nmW))
    have ht9 := kM.fix _ _ (kR.fix _ _ (k8.fix _ _ ht trivial) trivial) trivial
    refine k md L N R [(0, A)] [(0, W)] _ (fun b hb => ?_) k010 rfl rfl ⟨upd_same, kM.at_ _ _ hL9 (not_one (Ne.symm nmL)), kM.at_ _ _ hN9 (not_one (Ne.symm nmN)), kM.at_ _ _ hR9 (not_one (Ne.symm nmR)), fun p hp => ?_, fun p hp => ?_, by simp, ?_⟩
    · simp only [ownM, List.map_cons, List.map_nil, List.mem_cons, List.not_mem_nil, or_false] at hb
      rcases hb with rfl | rfl | rfl | rfl | rfl
      · exact fmd
      · exact k1.free fL
      · exact (Kp.trans k1 k2).free fN
      · exact k05.free fR
      · exact (Kp.trans k1 (Kp.trans k2 k3)).free fA
    · rw [List.mem_singleton.mp hp]
      exact kM.at_ _ _ hA9 (not_one (Ne.symm nmA))
    · rw [List.mem_singleton.mp hp]
      refine ⟨?_, ?_⟩
      · show LD K _ W ((rle (List.replicate n.toNat 0)).map d2)
        rw [rle_one hn]
        exact ⟨_, hW9, dpa_one (dp_mk2 (a := t) (m := n) (n := 0) (SqT.of ht9))⟩
      · simp only [ownM, List.map_cons, List.map_nil, List.mem_cons, List.not_mem_nil, or_false, not_or]
        exact ⟨Ne.symm nmW, Ne.symm nLW, Ne.symm nNW, Ne.symm nRW, Ne.symm nAW⟩
    · simp only [ownM, List.map_cons, List.map_nil, List.nodup_cons, List.mem_cons, List.not_mem_nil, or_false, not_or, not_false_iff, List.nodup_nil, and_true]
      exact ⟨⟨nmL, nmN, nmR, nmA⟩, ⟨nLN, nLR, nLA⟩, ⟨nNR, nNA⟩, Ne.symm nAR⟩

theorem i_dgS {H : Hp} {Q : VK} {a : Addr} {kvs : List (Key × V)} {z : Str} {v : V} (hd : H a = some (.dK kvs)) (hv : valV kvs (.inr z) = some v) (q : Q v H) : DG (.ref a) (.str z) H Q :=
  ⟨a, v, rfl, by
    have e := DGet.k (k := .inr z) hd
    rw [hv] at e
    exact e, q⟩
theorem i_setS {H : Hp} {a : Addr} {kvs : List (Key × V)} {z : Str} {v : V} {P : Hp → Prop} (hd : H a = some (.dK kvs)) (hl : kvs.length ≤ 1000000) (q : P (upd H a (.dK (putK kvs (.inr z) v)))) : rSetD (.ref a) (.str z) v H P :=
  ⟨a, _, rfl, DPut.k (k := .inr z) hd (small_sz hl), q⟩
def setR (w : Int) (r : Addr) (p : Int × Addr) : Int × Addr := if p.1 = w then (p.1, r) else p
theorem setR_1 {w : Int} {r : Addr} {p : Int × Addr} : (setR w r p).1 = p.1 := by
  unfold setR
  split <;> rfl
theorem setR_2 {w : Int} {r : Addr} {p : Int × Addr} : (setR w r p).2 = r ∧ p.1 = w ∨ (setR w r p).2 = p.2 ∧ p.1 ≠ w := by
  unfold setR
  by_cases c : p.1 = w
  · rw [if_pos c]
    exact .inl ⟨rfl, c⟩
  · rw [if_neg c]
    exact .inr ⟨rfl, c⟩
theorem put_old {w : Int} {r : Addr} {rep : List (Int × Addr)} (h : w ∈ rep.map (·.1)) : putK (rep.map kA) (.inl w) (.ref r) = (rep.map (setR w r)).map kA := by
  unfold putK
  have e1 : ((rep.map kA).any fun kv => decide (kv.1 = Sum.inl w)) = true := by
    obtain ⟨p, hp, e⟩ := List.mem_map.mp h
    rw [List.any_eq_true]
    refine ⟨kA p, List.mem_map.mpr ⟨p, hp, rfl⟩, decide_eq_true ?_⟩
    show (Sum.inl p.1 : Key) = Sum.inl w
    rw [e]
  rw [if_pos e1, List.map_map, List.map_map]
  refine List.map_congr_left fun p _ => ?_
  show (if (kA p).1 = Sum.inl w then ((kA p).1, V.ref r) else kA p) = kA (setR w r p)
  unfold setR
  by_cases c : p.1 = w
  · rw [if_pos c, if_pos (by show (Sum.inl p.1 : Key) = Sum.inl w; rw [c])]
    rfl
  · rw [if_neg c, if_neg (fun z => c (by
      have z : (Sum.inl p.1 : Key) = .inl w := z
      injection z))]
section
variable {K : PySem.W.Frag} {H H' : Hp} {md L N R a m r q : Addr} {rep rws : List (Int × Addr)} {n ever w : Int} {liv : List Int} {nb nb' : Int → List Int} {c c' : Int → List Int} {ws : List Addr}
theorem ownM_md : md ∈ ownM md L N R rep := List.mem_cons_self
theorem ownM_L : L ∈ ownM md L N R rep := List.mem_cons_of_mem _ List.mem_cons_self
theorem ownM_N : N ∈ ownM md L N R rep := List.mem_cons_of_mem _ (List.mem_cons_of_mem _ List.mem_cons_self)
theorem ownM_R : R ∈ ownM md L N R rep := List.mem_cons_of_mem _ (List.mem_cons_of_mem _ (List.mem_cons_of_mem _ List.mem_cons_self))
theorem ownM_p {p : Int × Addr} (h : p ∈ rep) : p.2 ∈ ownM md L N R rep := List.mem_cons_of_mem _ (List.mem_cons_of_mem _ (List.mem_cons_of_mem _ (List.mem_cons_of_mem _ (List.mem_map.mpr ⟨p, h, rfl⟩))))
theorem mem_ownM {b : Addr} : b ∈ ownM md L N R rep ↔ b = md ∨ b = L ∨ b = N ∨ b = R ∨ ∃ p ∈ rep, p.2 = b := by
  unfold ownM
  rw [List.mem_cons, List.mem_cons, List.mem_cons, List.mem_cons, List.mem_map]
theorem MoX.parts (x : MoX K H md L N R rep rws n ever liv nb c) : md ≠ L ∧ md ≠ N ∧ md ≠ R ∧ L ≠ N ∧ L ≠ R ∧ N ≠ R ∧ (rep.map (·.2)).Nodup ∧ ∀ p ∈ rep, p.2 ≠ md ∧ p.2 ≠ L ∧ p.2 ≠ N ∧ p.2 ≠ R := by
  have h := x.ad
  unfold ownM at h
  simp only [List.nodup_cons, List.mem_cons, not_or] at h
  obtain ⟨⟨a1, a2, a3, a4⟩, ⟨b1, b2, b3⟩, ⟨c1, c2⟩, d1, d2⟩ := h
  exact ⟨a1, a2, a3, b1, b2, c1, d2, fun p hp => ⟨fun z => a4 (List.mem_map.mpr ⟨p, hp, z⟩), fun z => b3 (List.mem_map.mpr ⟨p, hp, z⟩), fun z => c2 (List.mem_map.mpr ⟨p, hp, z⟩), fun z => d1 (List.mem_map.mpr ⟨p, hp, z⟩)⟩⟩
theorem MoX.known (x : MoX K H md L N R rep rws n ever liv nb c) : ∀ b ∈ ownM md L N R rep, ∃ u, H b = some u := fun b hb => by
  rcases mem_ownM.mp hb with h | h | h | h | ⟨p, hp, h⟩
  · exact ⟨_, by rw [h]; exact x.hm⟩
  · exact ⟨_, by rw [h]; exact x.hl⟩
  · exact ⟨_, by rw [h]; exact x.hn⟩
  · exact ⟨_, by rw [h]; exact x.hr⟩
  · exact ⟨_, by rw [← h]; exact x.nr p hp⟩
theorem MoX.fr (x : MoX K H md L N R rep rws n ever liv nb c) (f : Fr H q) : q ∉ ownM md L N R rep := fun z => by
  obtain ⟨u, e⟩ := x.known q z
  rw [f.e] at e
  cases e
theorem MoX.rtr (x : MoX K H md L N R rep rws n ever liv nb c) {p : Int × Addr} (hp : p ∈ rws) : Tr H p.2 := tr_ld (x.rr p hp).1
theorem MoX.kp (x : MoX K H md L N R rep rws n ever liv nb c) (k : Kp ws H H') (a : ∀ b ∈ ownM md L N R rep, b ∉ ws) (a2 : ∀ p ∈ rws, p.2 ∉ ws) : MoX K H' md L N R rep rws n ever liv nb c :=
  ⟨k.at_ _ _ x.hm (a _ ownM_md), k.at_ _ _ x.hl (a _ ownM_L), k.at_ _ _ x.hn (a _ ownM_N), k.at_ _ _ x.hr (a _ ownM_R), fun p hp => k.at_ _ _ (x.nr p hp) (a _ (ownM_p hp)), fun p hp => ⟨(x.rr p hp).1.kp k (imms_d2 _) (a2 p hp), (x.rr p hp).2⟩, x.nk, x.ad⟩
theorem MoX.kp0 (x : MoX K H md L N R rep rws n ever liv nb c) (k : Kp [] H H') : MoX K H' md L N R rep rws n ever liv nb c := x.kp k (fun _ _ => not_nil) fun _ _ => not_nil
theorem MoX.congr (x : MoX K H md L N R rep rws n ever liv nb c) (h : ∀ p ∈ rep, nb p.1 = nb' p.1) (h2 : ∀ p ∈ rws, c p.1 = c' p.1) : MoX K H md L N R rep rws n ever liv nb' c' :=
  ⟨x.hm, x.hl, x.hn, x.hr, fun p hp => by rw [← h p hp]; exact x.nr p hp, fun p hp => by rw [← h2 p hp]; exact x.rr p hp, x.nk, x.ad⟩
theorem MoX.rkeep (x : MoX K H md L N R rep rws n ever liv nb c) (k : Kp [q] H H') (hq : q ∈ ownM md L N R rep) : ∀ p ∈ rws, LD K H' p.2 ((rle (c p.1)).map d2) ∧ p.2 ∉ ownM md L N R rep := fun p hp =>
  ⟨(x.rr p hp).1.kp k (imms_d2 _) (not_one fun e => (x.rr p hp).2 (by rw [e]; exact hq)), (x.rr p hp).2⟩
theorem MoX.near (x : MoX K H md L N R rep rws n ever liv nb c) (h : w ∈ rep.map (·.1)) : ∃ a, (w, a) ∈ rep ∧ H a = some (.lst ((nb w).map V.int)) := by
  obtain ⟨p, hp, rfl⟩ := List.mem_map.mp h
  exact ⟨p.2, hp, x.nr p hp⟩
theorem MoX.row (x : MoX K H md L N R rep rws n ever liv nb c) (h : w ∈ rws.map (·.1)) : ∃ r, (w, r) ∈ rws ∧ LD K H r ((rle (c w)).map d2) ∧ r ∉ ownM md L N R rep := by
  obtain ⟨p, hp, rfl⟩ := List.mem_map.mp h
  exact ⟨p.2, hp, x.rr p hp⟩
theorem MoX.toEver (x : MoX K H md L N R rep rws n ever liv nb c) (e : Int) : Kp [md] H (upd H md (.dK (mKs n e L N R))) ∧ MoX K (upd H md (.dK (mKs n e L N R))) md L N R rep rws n e liv nb c := by
  obtain ⟨n1, n2, n3, n4, n5, n6, n7, n8⟩ := x.parts
  have k : Kp [md] H (upd H md (.dK (mKs n e L N R))) := kp_set x.hm (fun z => z)
  exact ⟨k, upd_same, k.at_ _ _ x.hl (not_one (Ne.symm n1)), k.at_ _ _ x.hn (not_one (Ne.symm n2)), k.at_ _ _ x.hr (not_one (Ne.symm n3)), fun p hp => k.at_ _ _ (x.nr p hp) (not_one (n8 p hp).1), x.rkeep k ownM_md, x.nk, x.ad⟩
theorem MoX.toLiv (x : MoX K H md L N R rep rws n ever liv nb c) (l : List Int) : Kp [L] H (upd H L (.lst (l.map V.int))) ∧ MoX K (upd H L (.lst (l.map V.int))) md L N R rep rws n ever l nb c := by
  obtain ⟨n1, n2, n3, n4, n5, n6, n7, n8⟩ := x.parts
  have k : Kp [L] H (upd H L (.lst (l.map V.int))) := kp_set x.hl (fun z => z)
  exact ⟨k, k.at_ _ _ x.hm (not_one n1), upd_same, k.at_ _ _ x.hn (not_one (Ne.symm n4)), k.at_ _ _ x.hr (not_one (Ne.symm n5)), fun p hp => k.at_ _ _ (x.nr p hp) (not_one (n8 p hp).2.1), x.rkeep k ownM_L, x.nk, x.ad⟩
theorem MoX.put (x : MoX K H md L N R rep rws n ever liv nb c) (h : (w, a) ∈ rep) (l : List Int) : Kp [a] H (upd H a (.lst (l.map V.int))) ∧ MoX K (upd H a (.lst (l.map V.int))) md L N R rep rws n ever liv (setN nb w l) c := by
  obtain ⟨n1, n2, n3, n4, n5, n6, n7, n8⟩ := x.parts
  obtain ⟨m1, m2, m3, m4⟩ := n8 _ h
  have k : Kp [a] H (upd H a (.lst (l.map V.int))) := kp_set (x.nr _ h) (fun z => z)
  refine ⟨k, k.at_ _ _ x.hm (not_one (Ne.symm m1)), k.at_ _ _ x.hl (not_one (Ne.symm m2)), k.at_ _ _ x.hn (not_one (Ne.symm m3)), k.at_ _ _ x.hr (not_one (Ne.symm m4)), fun p hp => ?_, x.rkeep k (ownM_p h), x.nk, x.ad⟩
  unfold setN
  by_cases c : p.1 = w
  · have e : p.2 = a := rep_fun x.nk (u := w) (by rw [← c]; exact hp) h
    rw [if_pos c, e]
    exact upd_same
  · have e : p.2 ≠ a := fun e => c (rep_inj n7 (a := a) (by rw [← e]; exact hp) h)
    rw [if_neg c, upd_ne e]
    exact x.nr p hp
/-- a world comes into near, with a list of its own -/
theorem MoX.add (x : MoX K H md L N R rep rws n ever liv nb c) (f : Fr H m) (hw : w ∉ rep.map (·.1)) (l : List Int) : Kp [N] H (upd (upd H m (.lst (l.map V.int))) N (.dK ((rep ++ [(w, m)]).map kA))) ∧
    MoX K (upd (upd H m (.lst (l.map V.int))) N (.dK ((rep ++ [(w, m)]).map kA))) md L N R (rep ++ [(w, m)]) rws n ever liv (setN nb w l) c := by
  obtain ⟨n1, n2, n3, n4, n5, n6, n7, n8⟩ := x.parts
  have k1 : Kp [] H (upd H m (.lst (l.map V.int))) := Kp.new f
  have hN1 := k1.at_ _ _ x.hn not_nil
  have k2 : Kp [N] (upd H m (.lst (l.map V.int))) (upd (upd H m (.lst (l.map V.int))) N (.dK ((rep ++ [(w, m)]).map kA))) := kp_set hN1 (fun z => z)
  have k := Kp.trans k1.wide k2
  have mf : m ∉ ownM md L N R rep := x.fr f
  have mN : m ≠ N := fun e => mf (by rw [e]; exact ownM_N)
  refine ⟨k, k.at_ _ _ x.hm (not_one n2), k.at_ _ _ x.hl (not_one n4), upd_same, k.at_ _ _ x.hr (not_one (Ne.symm n6)), fun p hp => ?_, fun p hp => ?_, ?_, ?_⟩
  · unfold setN
    rcases List.mem_append.mp hp with h | h
    · have e : p.1 ≠ w := fun e => hw (by rw [← e]; exact List.mem_map.mpr ⟨p, h, rfl⟩)
      rw [if_neg e]
      exact k.at_ _ _ (x.nr p h) (not_one (n8 p h).2.2.1)
    · rw [List.mem_singleton.mp h, if_pos rfl]
      exact k2.at_ _ _ upd_same (not_one mN)
  · obtain ⟨h1, h2⟩ := x.rkeep k ownM_N p hp
    refine ⟨h1, fun z => ?_⟩
    rcases mem_ownM.mp z with h | h | h | h | ⟨p', hp', h⟩
    · exact h2 (mem_ownM.mpr (.inl h))
    · exact h2 (mem_ownM.mpr (.inr (.inl h)))
    · exact h2 (mem_ownM.mpr (.inr (.inr (.inl h))))
    · exact h2 (mem_ownM.mpr (.inr (.inr (.inr (.inl h)))))
    · rcases List.mem_append.mp hp' with h3 | h3
      · exact h2 (mem_ownM.mpr (.inr (.inr (.inr (.inr ⟨p', h3, h⟩)))))
      · rw [List.mem_singleton.mp h3] at h
        exact fr_tr (x.rtr hp) f h.symm
  · rw [List.map_append]
    refine List.nodup_append.mpr ⟨x.nk, by simp, fun b hb c hc q => hw ?_⟩
    have hc := List.mem_singleton.mp hc
    have q2 : b = w := q.trans hc
    rw [← q2]
    exact hb
  · have e : ownM md L N R (rep ++ [(w, m)]) = ownM md L N R rep ++ [m] := by unfold ownM; rw [List.map_append]; rfl
    rw [e]
    exact List.nodup_append.mpr ⟨x.ad, by simp, fun b hb c hc q => mf (by rw [← List.mem_singleton.mp hc, ← q]; exact hb)⟩
theorem MoX.drop (x : MoX K H md L N R rep rws n ever liv nb c) (w : Int) : Kp [N] H (upd H N (.dK ((rep.filter fun p => decide (p.1 ≠ w)).map kA))) ∧ MoX K (upd H N (.dK ((rep.filter fun p => decide (p.1 ≠ w)).map kA))) md L N R (rep.filter fun p => decide (p.1 ≠ w)) rws n ever liv nb c := by
  obtain ⟨n1, n2, n3, n4, n5, n6, n7, n8⟩ := x.parts
  have k : Kp [N] H (upd H N (.dK ((rep.filter fun p => decide (p.1 ≠ w)).map kA))) := kp_set x.hn (fun z => z)
  have sub : ∀ b, b ∈ ownM md L N R (rep.filter fun p => decide (p.1 ≠ w)) → b ∈ ownM md L N R rep := fun b hb => by
    rcases mem_ownM.mp hb with h | h | h | h | ⟨p, hp, h⟩
    · exact mem_ownM.mpr (.inl h)
    · exact mem_ownM.mpr (.inr (.inl h))
    · exact mem_ownM.mpr (.inr (.inr (.inl h)))
    · exact mem_ownM.mpr (.inr (.inr (.inr (.inl h))))
    · exact mem_ownM.mpr (.inr (.inr (.inr (.inr ⟨p, (List.mem_filter.mp hp).1, h⟩))))
  refine ⟨k, k.at_ _ _ x.hm (not_one n2), k.at_ _ _ x.hl (not_one n4), upd_same, k.at_ _ _ x.hr (not_one (Ne.symm n6)), fun p hp => ?_, fun p hp => ?_, x.nk.sublist (List.filter_sublist.map _), ?_⟩
  · have h := (List.mem_filter.mp hp).1
    exact k.at_ _ _ (x.nr p h) (not_one (n8 p h).2.2.1)
  · obtain ⟨h1, h2⟩ := x.rkeep k ownM_N p hp
    exact ⟨h1, fun z => h2 (sub _ z)⟩
  · exact x.ad.sublist (.cons_cons _ (.cons_cons _ (.cons_cons _ (.cons_cons _ (List.filter_sublist.map _)))))
/-- rows of runs: one comes, one goes, one is put otherwise -/
theorem MoX.rowAdd (x : MoX K H md L N R rep rws n ever liv nb c) (h : LD K H r ((rle (c w)).map d2)) (hr : r ∉ ownM md L N R rep) : Kp [R] H (upd H R (.dK ((rws ++ [(w, r)]).map kA))) ∧ MoX K (upd H R (.dK ((rws ++ [(w, r)]).map kA))) md L N R rep (rws ++ [(w, r)]) n ever liv nb c := by
  obtain ⟨n1, n2, n3, n4, n5, n6, n7, n8⟩ := x.parts
  have k : Kp [R] H (upd H R (.dK ((rws ++ [(w, r)]).map kA))) := kp_set x.hr (fun z => z)
  refine ⟨k, k.at_ _ _ x.hm (not_one n3), k.at_ _ _ x.hl (not_one n5), k.at_ _ _ x.hn (not_one n6), upd_same, fun p hp => k.at_ _ _ (x.nr p hp) (not_one (n8 p hp).2.2.2), fun p hp => ?_, x.nk, x.ad⟩
  rcases List.mem_append.mp hp with z | z
  · exact x.rkeep k ownM_R p z
  · rw [List.mem_singleton.mp z]
    exact ⟨h.kp k (imms_d2 _) (not_one fun e => hr (by rw [e]; exact ownM_R)), hr⟩
theorem MoX.rowDrop (x : MoX K H md L N R rep rws n ever liv nb c) (w : Int) : Kp [R] H (upd H R (.dK ((rws.filter fun p => decide (p.1 ≠ w)).map kA))) ∧ MoX K (upd H R (.dK ((rws.filter fun p => decide (p.1 ≠ w)).map kA))) md L N R rep (rws.filter fun p => decide (p.1 ≠ w)) n ever liv nb c := by
  obtain ⟨n1, n2, n3, n4, n5, n6, n7, n8⟩ := x.parts
  have k : Kp [R] H (upd H R (.dK ((rws.filter fun p => decide (p.1 ≠ w)).map kA))) := kp_set x.hr (fun z => z)
  exact ⟨k, k.at_ _ _ x.hm (not_one n3), k.at_ _ _ x.hl (not_one n5), k.at_ _ _ x.hn (not_one n6), upd_same, fun p hp => k.at_ _ _ (x.nr p hp) (not_one (n8 p hp).2.2.2), fun p hp => x.rkeep k ownM_R p (List.mem_filter.mp hp).1, x.nk, x.ad⟩
theorem MoX.rowPut (x : MoX K H md L N R rep rws n ever liv nb c) {cs : List Int} (h : LD K H r ((rle cs).map d2)) (hr : r ∉ ownM md L N R rep) : Kp [R] H (upd H R (.dK ((rws.map (setR w r)).map kA))) ∧ MoX K (upd H R (.dK ((rws.map (setR w r)).map kA))) md L N R rep (rws.map (setR w r)) n ever liv nb (setC c w cs) := by
  obtain ⟨n1, n2, n3, n4, n5, n6, n7, n8⟩ := x.parts
  have k : Kp [R] H (upd H R (.dK ((rws.map (setR w r)).map kA))) := kp_set x.hr (fun z => z)
  refine ⟨k, k.at_ _ _ x.hm (not_one n3), k.at_ _ _ x.hl (not_one n5), k.at_ _ _ x.hn (not_one n6), upd_same, fun p hp => k.at_ _ _ (x.nr p hp) (not_one (n8 p hp).2.2.2), fun p hp => ?_, x.nk, x.ad⟩
  obtain ⟨p', hp', rfl⟩ := List.mem_map.mp hp
  rw [setR_1]
  unfold setC
  rcases setR_2 (w := w) (r := r) (p := p') with ⟨e1, e2⟩ | ⟨e1, e2⟩
  · rw [e1, if_pos e2]
    exact ⟨h.kp k (imms_d2 _) (not_one fun e => hr (by rw [e]; exact ownM_R)), hr⟩
  · rw [e1, if_neg e2]
    exact x.rkeep k ownM_R p' hp'
end
--%%M
local macro_rules | `(tactic| walk_at "g_own") => `(tactic| first
  | ((with_reducible apply i_dgS ?h ?g ?_); (case h => walk_at "g_hp"); (case g => first | exact mKs_wide | exact mKs_ever | exact mKs_living | exact mKs_near | exact mKs_rows)))
--%%E

/-! ### dicts walked over as statements -/
theorem i_lockS {t : TS} {D : Ends} {σ : L2.St} {H : Hp} {d : Addr} {kvs : List (Key × V)} (h : H d = some (.dK kvs))
    (k : ∀ od, t ⟨fun σ' H' => H' d = some (.frz od (.dK kvs)) ∧ D.nx σ' (upd H' d (.dK kvs)), fun v H' => H' d = some (.frz od (.dK kvs)) ∧ D.rt v (upd H' d (.dK kvs)), fun σ' H' => H' d = some (.frz od (.dK kvs)) ∧ D.bk σ' (upd H' d (.dK kvs)), fun σ' H' => H' d = some (.frz od (.dK kvs)) ∧ D.ct σ' (upd H' d (.dK kvs))⟩ σ (upd H d (.frz od (.dK kvs)))) : tLock t D σ H := ⟨d, _, h, trivial, k⟩
theorem kp_unlW {ws : List Addr} {H3 H4 : Hp} {d : Addr} {u v : HO} (h : H3 d = some u) (nu : ¬ Fix u) (k : Kp ws (upd H3 d v) H4) (n : ∀ b, b ∈ ws → d ≠ b) : Kp ws H3 (upd H4 d u) := by
  refine ⟨fun a o e na => ?_, fun a o e f => ?_, fun a o e => ?_⟩
  · by_cases z : a = d
    · subst z
      rw [h] at e
      cases e
      exact upd_same
    · rw [upd_ne z]
      exact k.at_ a o (by rw [upd_ne z]; exact e) na
  · have z : a ≠ d := by
      intro z
      subst z
      rw [h] at e
      cases e
      exact nu f
    rw [upd_ne z]
    exact k.fix a o (by rw [upd_ne z]; exact e) f
  · by_cases z : a = d
    · exact ⟨u, by rw [z]; exact upd_same⟩
    · rw [upd_ne z]
      exact k.dom a o (by rw [upd_ne z]; exact e)
section
variable {σ : L2.St} {H H1 : Hp} {d : Addr} {g : TG} {td : TE} {o : Obj} {kvs : List (Key × V)} {D : Ends} {tb : TS}
/-- the pairs of a dict, as a loop -/
def ForIt (x : V) (g : TG) (tb : TS) (D : Ends) (σ : L2.St) (H1 : Hp) : Prop := ∃ d o kvs, x = .ref d ∧ H1 d = some (.frz o (.dK kvs)) ∧ ∃ W : Nat → Nat → L2.St → Hp → Prop, (∃ m, W 0 m σ H1) ∧ ∀ i m σ H, W i m σ H →
  ((Iti d o kvs).stop i H ∧ D.nx σ H) ∨ ((Iti d o kvs).go i H ∧ ∃ N : L2.St → Hp → Prop, (∀ σ' H', N σ' H' → ∃ m', m' < m ∧ W (i + 1) m' σ' H') ∧ ∀ x H', (Iti d o kvs).yld i H x H' → g x σ H' fun σ2 H2 => tb { D with nx := N, ct := N, bk := D.nx } σ2 H2)
theorem i_forIt (h : td σ H fun x H1 => ForIt x g tb D σ H1) : tFor (iItems td) g tb D σ H := h
theorem i_eachIt (hd : H d = some (.frz o (.dK kvs))) (Pv : Nat → L2.St → Hp → Prop) (h0 : Pv 0 σ H) (hl : ∀ i σ H', Pv i σ H' → H' d = some (.frz o (.dK kvs)))
    (st : ∀ i k v T σ H', kvs[i]? = some (k, v) → Pv i σ H' → Fr H' T → g (.ref T) σ (upd H' T (.tup [kV k, v])) fun σ2 H2 => tb { D with nx := Pv (i + 1), ct := Pv (i + 1), bk := D.nx } σ2 H2)
    (hdn : ∀ σ H', Pv kvs.length σ H' → D.nx σ H') : ForIt (.ref d) g tb D σ H := by
  refine ⟨d, o, kvs, rfl, hd, fun i m σ H' => m = kvs.length - i ∧ i ≤ kvs.length ∧ Pv i σ H', ⟨_, rfl, Nat.zero_le _, h0⟩, ?_⟩
  rintro i m σ H' ⟨rfl, hi, z⟩
  have q := hl i σ H' z
  by_cases c : i < kvs.length
  · refine .inr ⟨⟨q, c⟩, Pv (i + 1), fun σ2 H2 w => ⟨_, by omega, rfl, c, w⟩, ?_⟩
    rintro x H2 ⟨T, k, v, e, rfl, hT, rfl⟩
    exact st i k v T σ _ e z ⟨hT⟩
  · have e : i = kvs.length := by omega
    exact .inl ⟨⟨q, by omega⟩, hdn σ H' (by rw [← e]; exact z)⟩
end
theorem i_dgF {H : Hp} {Q : VK} {a : Addr} {o : Obj} {kvs : List (Key × V)} {n : Int} {v : V} (hd : H a = some (.frz o (.dK kvs))) (hv : valV kvs (.inl n) = some v) (q : Q v H) : DG (.ref a) (.int n) H Q :=
  ⟨a, v, rfl, .inl ⟨kvs, .inl n, .inr ⟨o, hd⟩, rfl, hv.symm⟩, q⟩

def sp_forked (K : PySem.W.Frag) : Sp := fun vs H Q _ => ∃ (D : Int → Int → Int) (md L N R : Addr) (rep rws : List (Int × Addr)) (n ever : Int) (liv : List Int) (nb : Int → List Int) (c : Int → List Int) (w : Int), vs = [.ref md, .int w] ∧ MoX K H md L N R rep rws n ever liv nb c ∧ rws.map (·.1) = liv ∧ Tr3 D ever liv (rep.map (·.1)) nb ∧ ever ≤ 200 ∧ w ∈ liv ∧ (rle (c w)).length ≤ 1000 ∧
  ∀ rep' rws' H', Kp (ownM md L N R rep) H H' → Grow H (ownM md L N R rep) (ownM md L N R rep') → (∀ p ∈ rws', p ∈ rws ∨ Fr H p.2) → rep'.map (·.1) = rep.map (·.1) ++ [ever] → rws'.map (·.1) = liv ++ [ever] →
    MoX K H' md L N R rep' rws' n (ever + 1) (liv ++ [ever]) (forkN nb ever w) (setC c ever (c w)) → Q (.int ever) H'
theorem sc_law_forked : FnScope ["_law_model_here", "_law_being", "_law_fresh"] ["_law_model_here", "_law_being"] (defScope s_law_forked) :=
  ⟨rfl, rfl, rfl, by decide +kernel, rfl, by decide +kernel, by decide +kernel⟩
theorem ok_law_forked {P : Program} {w : World} {K : PySem.W.Frag} {mg : Str → Option Value} {base : Heap} (T : Txt K mg) :
    FnG P w K mg base 1 T.a_law_forked T.d_law_forked ["_law_model_here", "_law_being"] (sp_forked K) := by
  refine okD T.F_law_forked sc_law_forked (fun vs H Q E h => ?_) (fun cdv A outer s H vs Q E hr h => ?_)
  · first
      | (obtain ⟨_, rfl, _⟩ := h; rfl)
      | (obtain ⟨_, _, rfl, _⟩ := h; rfl)
      | (obtain ⟨_, _, _, rfl, _⟩ := h; rfl)
      | (obtain ⟨_, _, _, _, rfl, _⟩ := h; rfl)
      | (obtain ⟨_, _, _, _, _, rfl, _⟩ := h; rfl)
      | (obtain ⟨_, _, _, _, _, _, rfl, _⟩ := h; rfl)
      | (obtain ⟨_, _, _, _, _, _, _, rfl, _⟩ := h; rfl)
      | (obtain ⟨_, _, _, _, _, _, _, _, rfl, _⟩ := h; rfl)
      | (obtain ⟨_, _, _, _, _, _, _, _, _, rfl, _⟩ := h; rfl)
      | (obtain ⟨_, _, _, _, _, _, _, _, _, _, rfl, _⟩ := h; rfl)
      | (obtain ⟨_, _, _, _, _, _, _, _, _, _, _, rfl, _⟩ := h; rfl)
      | (obtain ⟨_, _, _, _, _, _, _, _, _, _, _, _, rfl, _⟩ := h; rfl)
      | (obtain ⟨_, _, _, _, _, _, _, _, _, _, _, _, _, rfl, _⟩ := h; rfl)
      | (obtain ⟨_, _, _, _, _, _, _, _, _, _, _, _, _, _, rfl, _⟩ := h; rfl)
      | (obtain ⟨_, _, _, _, _, _, _, _, _, _, _, _, _, _, _, rfl, _⟩ := h; rfl)
      | (obtain ⟨_, _, _, _, _, _, _, _, _, _, _, _, _, _, _, _, rfl, _⟩ := h; rfl)
      | (obtain ⟨_, _, _, _, _, _, _, _, _, _, _, _, _, _, _, _, _, rfl, _⟩ := h; rfl)
      | (obtain ⟨_, _, _, _, _, _, _, _, _, _, _, _, _, _, _, _, _, _, rfl, _⟩ := h; rfl)
      | (obtain ⟨_, _, _, _, _, _, _, _, _, _, _, _, _, _, _, _, _, _, _, rfl, _⟩ := h; rfl)
  · obtain ⟨D, md, L, N, R, rep, rws, n, ever, liv, nb, c, w, rfl, x, kr, z, he, hw, hrl, k⟩ := h
    have hwk := z.sub w hw
    obtain ⟨hw0, hwe⟩ := z.hU w hwk
    have lk := z.klen
    have ll := z.llen
    have ln := z.nlen hwk
    rw [List.length_map] at lk
    have hek : ever ∉ rep.map (·.1) := fun c => by
      have := (z.hU ever c).2
      omega
    have hel : ever ∉ liv := fun c => hek (z.sub _ c)
    obtain ⟨a, ha, _⟩ := x.near hwk
    obtain ⟨r, hrw, _, nro⟩ := x.row (w := w) (by rw [kr]; exact hw)
    have hm := x.hm
    have nrw : (rws.map (·.1)).Nodup := by rw [kr]; exact z.nl
    have lrw : rws.length = liv.length := by rw [← kr, List.length_map]
    have cl_Memory := T.cl_Memory
    have na_Memory_pairs := T.na_Memory_pairs
    have na_Memory_wide := T.na_Memory_wide
    have cl_Ties := T.cl_Ties
    have na_Ties_near := T.na_Ties_near
    have na_Ties_own_ever := T.na_Ties_own_ever
    have na_Ties_own_living := T.na_Ties_own_living
    have cl_Store := T.cl_Store
    have na_Store_kept_by_world := T.na_Store_kept_by_world
    have na_Store_own_size := T.na_Store_own_size
    have na_Store_own_ties := T.na_Store_own_ties
    refine ⟨_, (pss_cons (ps_set (i := 2) sc_law_forked.nd rfl (Or.inl rfl) (pe_dget (u1 hr.r.units) (pv 0) pe_str (fun _ _ => rfl)))
      (pss_cons (ps_asg (pe_op (k_add (K := K) rfl) (pv 2) pe_int) (pg_sub (pv 0) pe_str (set_dict (u1 hr.r.units))))
      (pss_cons (ps_expr (pe_bm PySem.F.plainAttrs_list PySem.F.slot_list_append PySem.F.type_list_append mt_append (pe_dget (u1 hr.r.units) (pv 0) pe_str (fun _ _ => rfl)) (pa_cons (pv 2) pa_nil)))
      (pss_cons (ps_expr (pe_bm PySem.F.plainAttrs_list PySem.F.slot_list_append PySem.F.type_list_append mt_append (pe_dget (u1 hr.r.units) (pe_dget (u1 hr.r.units) (pv 0) pe_str (fun _ _ => rfl)) (pv 1) (fun _ _ => rfl)) (pa_cons (pv 2) pa_nil)))
      (pss_cons (ps_asg (pe_lst (pa_cons (pv 1) pa_nil)) (pg_sub (pe_dget (u1 hr.r.units) (pv 0) pe_str (fun _ _ => rfl)) (pv 2) (set_dict (u1 hr.r.units))))
      (pss_cons (ps_asg (pe_callTy (k_list (K := K) rfl) (by rfl) T.n_list (by decide +kernel) (pa_cons (pe_dget (u1 hr.r.units) (pe_dget (u1 hr.r.units) (pv 0) pe_str (fun _ _ => rfl)) (pv 1) (fun _ _ => rfl)) pa_nil)) (pg_sub (pe_dget (u1 hr.r.units) (pv 0) pe_str (fun _ _ => rfl)) (pv 2) (set_dict (u1 hr.r.units))))
      (pss_one (ps_ret (pv 2))))))))), ?_⟩
    dsimp only [cxOf, st_1, st_2, st_3, st_4, st_5, st_6, List.length_cons, List.length_nil, List.replicate_succ, List.replicate_zero, Nat.reduceAdd, Nat.reduceSub]
    walk_at "gs"
    refine i_setS hm (by show 5 ≤ 1000000; decide) ?_
    rw [mKs_put]
    obtain ⟨k1, x1⟩ := x.toEver (ever + 1)
    obtain ⟨H1, e1⟩ : ∃ H1, H1 = upd H md (.dK (mKs n (ever + 1) L N R)) := ⟨_, rfl⟩
    rw [← e1] at k1 x1 ⊢
    have hm1 := x1.hm
    have hl1 := x1.hl
    walk_at "gs"
    refine i_app hl1 (small_sz (by rw [List.length_map]; omega)) ?_
    rw [snoc_int]
    obtain ⟨k2, x2⟩ := x1.toLiv (liv ++ [ever])
    obtain ⟨H2, e2⟩ : ∃ H2, H2 = upd H1 L (.lst ((liv ++ [ever]).map V.int)) := ⟨_, rfl⟩
    rw [← e2] at k2 x2 ⊢
    have hm2 := x2.hm
    have hn2 := x2.hn
    walk_at "gs"
    refine i_dg hn2 (val_rep x2.nk ha) ?_
    have ha2 : H2 a = some (.lst ((nb w).map V.int)) := x2.nr _ ha
    walk_at "gs"
    refine i_app ha2 (small_sz (by rw [List.length_map]; omega)) ?_
    rw [snoc_int]
    obtain ⟨k3, x3⟩ := x2.put ha (nb w ++ [ever])
    obtain ⟨H3, e3⟩ : ∃ H3, H3 = upd H2 a (.lst ((nb w ++ [ever]).map V.int)) := ⟨_, rfl⟩
    rw [← e3] at k3 x3 ⊢
    have hm3 := x3.hm
    walk_at "gs"
    refine i_new fun m fm => ?_
    have km3 := (Kp.new (ws := []) (o := HO.lst [V.int w]) fm).at_ _ _ hm3 not_nil
    walk_at "gs"
    refine i_setK (kvs := rep.map kA) ((Kp.new (ws := []) (o := HO.lst [V.int w]) fm).at_ _ _ x3.hn not_nil) (by rw [List.length_map]; omega) ?_
    rw [put_new hek]
    obtain ⟨k4, x4⟩ := x3.add fm hek [w]
    obtain ⟨H4, e4⟩ : ∃ H4, H4 = upd (upd H3 m (.lst ([w].map V.int))) N (.dK ((rep ++ [(ever, m)]).map kA)) := ⟨_, rfl⟩
    have e4' : upd (upd H3 m (.lst [V.int w])) N (.dK ((rep ++ [(ever, m)]).map kA)) = H4 := e4.symm
    rw [← e4] at k4 x4
    rw [e4']
    have hm4 := x4.hm
    have hr4 := x4.hr
    walk_at "gs"
    refine i_dg hr4 (val_rep nrw hrw) ?_
    obtain ⟨⟨rv, hrv, har⟩, _⟩ := x4.rr _ hrw
    have hrv : H4 r = some (.lst rv) := hrv
    walk_at "gs"
    refine i_new fun r2 fr2 => ?_
    have k5 : Kp [] H4 (upd H4 r2 (.lst rv)) := Kp.new fr2
    have x5 := x4.kp0 k5
    have lr2 : LD K (upd H4 r2 (.lst rv)) r2 ((rle (c w)).map d2) := ⟨_, upd_same, dpa_imm k5 _ _ (imms_d2 _) har⟩
    obtain ⟨H5, e5⟩ : ∃ H5, H5 = upd H4 r2 (.lst rv) := ⟨_, rfl⟩
    rw [← e5] at k5 x5 lr2 ⊢
    have hm5 := x5.hm
    have hr5 := x5.hr
    walk_at "gs"
    refine i_setK hr5 (by rw [List.length_map]; omega) ?_
    rw [put_new (by rw [kr]; exact hel)]
    have x5' : MoX K H5 md L N R (rep ++ [(ever, m)]) rws n (ever + 1) (liv ++ [ever]) (setN (setN nb w (nb w ++ [ever])) ever [w]) (setC c ever (c w)) := x5.congr (fun _ _ => rfl) fun p hp => by
      unfold setC
      rw [if_neg]
      intro q
      exact hel (by rw [← q, ← kr]; exact List.mem_map.mpr ⟨p, hp, rfl⟩)
    obtain ⟨k6, x6⟩ := x5'.rowAdd (w := ever) (r := r2) (by unfold setC; rw [if_pos rfl]; exact lr2) (x4.fr fr2)
    obtain ⟨H6, e6⟩ : ∃ H6, H6 = upd H5 R (.dK ((rws ++ [(ever, r2)]).map kA)) := ⟨_, rfl⟩
    rw [← e6] at k6 x6 ⊢
    walk_at "gs"
    have o1 : ∀ {b : Addr}, b ∈ ownM md L N R rep → ∀ u ∈ [b], u ∈ ownM md L N R rep := fun {b} h u hu => by rw [List.mem_singleton.mp hu]; exact h
    have k03 : Kp (ownM md L N R rep) H H3 := Kp.trans (k1.mono (o1 ownM_md)) (Kp.trans (k2.mono (o1 ownM_L)) (k3.mono (o1 (ownM_p ha))))
    have k04 : Kp (ownM md L N R rep) H H4 := Kp.trans k03 (k4.mono (o1 ownM_N))
    have k06 : Kp (ownM md L N R rep) H H6 := Kp.trans k04 (Kp.trans k5.wide (k6.mono (o1 ownM_R)))
    refine k (rep ++ [(ever, m)]) (rws ++ [(ever, r2)]) H6 k06 (fun b hb => ?_) (fun p hp => ?_) (by rw [List.map_append]; rfl) (by rw [List.map_append, kr]; rfl) (x6.congr (fun p hp => ?_) fun _ _ => rfl)
    · rcases mem_ownM.mp hb with h | h | h | h | ⟨p, hp, h⟩
      · exact .inl (mem_ownM.mpr (.inl h))
      · exact .inl (mem_ownM.mpr (.inr (.inl h)))
      · exact .inl (mem_ownM.mpr (.inr (.inr (.inl h))))
      · exact .inl (mem_ownM.mpr (.inr (.inr (.inr (.inl h)))))
      · rcases List.mem_append.mp hp with h3 | h3
        · exact .inl (mem_ownM.mpr (.inr (.inr (.inr (.inr ⟨p, h3, h⟩)))))
        · rw [List.mem_singleton.mp h3] at h
          exact .inr (by rw [← h]; exact k03.free fm)
    · rcases List.mem_append.mp hp with h | h
      · exact .inl h
      · rw [List.mem_singleton.mp h]
        exact .inr (k04.free fr2)
    · unfold setN forkN
      by_cases c : p.1 = ever
      · rw [if_pos c, if_pos c]
      · rw [if_neg c, if_neg c]
        by_cases c2 : p.1 = w
        · rw [if_pos c2, if_pos c2, c2]
        · rw [if_neg c2, if_neg c2]

def sp_dropped (K : PySem.W.Frag) : Sp := fun vs H Q _ => ∃ (md L N R : Addr) (rep rws : List (Int × Addr)) (n ever : Int) (liv : List Int) (nb : Int → List Int) (c : Int → List Int) (w : Int), vs = [.ref md, .int w] ∧ MoX K H md L N R rep rws n ever liv nb c ∧ w ∈ rep.map (·.1) ∧ (∀ u ∈ nb w, u ∈ rep.map (·.1) ∧ u ≠ w ∧ w ∈ nb u) ∧ (∀ u ∈ rep.map (·.1), w ∈ nb u → u ∈ nb w) ∧ (nb w).Nodup ∧ (∀ u ∈ rep.map (·.1), (nb u).length ≤ 200) ∧
  ∀ rep' H', Kp (ownM md L N R rep) H H' → (∀ b ∈ ownM md L N R rep', b ∈ ownM md L N R rep) → rep'.map (·.1) = (rep.map (·.1)).erase w → MoX K H' md L N R rep' rws n ever liv (cutN nb w) c → Q .non H'
theorem sc_law_dropped : FnScope ["_law_model_here", "_law_one", "_law_sides", "_law_side"] ["_law_model_here", "_law_one"] (defScope s_law_dropped) :=
  ⟨rfl, rfl, rfl, by decide +kernel, rfl, by decide +kernel, by decide +kernel⟩
theorem ok_law_dropped {P : Program} {w : World} {K : PySem.W.Frag} {mg : Str → Option Value} {base : Heap} (T : Txt K mg) :
    FnG P w K mg base 1 T.a_law_dropped T.d_law_dropped ["_law_model_here", "_law_one"] (sp_dropped K) := by
  refine okD T.F_law_dropped sc_law_dropped (fun vs H Q E h => ?_) (fun cdv A outer s H vs Q E hr h => ?_)
  · first
      | (obtain ⟨_, rfl, _⟩ := h; rfl)
      | (obtain ⟨_, _, rfl, _⟩ := h; rfl)
      | (obtain ⟨_, _, _, rfl, _⟩ := h; rfl)
      | (obtain ⟨_, _, _, _, rfl, _⟩ := h; rfl)
      | (obtain ⟨_, _, _, _, _, rfl, _⟩ := h; rfl)
      | (obtain ⟨_, _, _, _, _, _, rfl, _⟩ := h; rfl)
      | (obtain ⟨_, _, _, _, _, _, _, rfl, _⟩ := h; rfl)
      | (obtain ⟨_, _, _, _, _, _, _, _, rfl, _⟩ := h; rfl)
      | (obtain ⟨_, _, _, _, _, _, _, _, _, rfl, _⟩ := h; rfl)
      | (obtain ⟨_, _, _, _, _, _, _, _, _, _, rfl, _⟩ := h; rfl)
      | (obtain ⟨_, _, _, _, _, _, _, _, _, _, _, rfl, _⟩ := h; rfl)
      | (obtain ⟨_, _, _, _, _, _, _, _, _, _, _, _, rfl, _⟩ := h; rfl)
      | (obtain ⟨_, _, _, _, _, _, _, _, _, _, _, _, _, rfl, _⟩ := h; rfl)
      | (obtain ⟨_, _, _, _, _, _, _, _, _, _, _, _, _, _, rfl, _⟩ := h; rfl)
      | (obtain ⟨_, _, _, _, _, _, _, _, _, _, _, _, _, _, _, rfl, _⟩ := h; rfl)
      | (obtain ⟨_, _, _, _, _, _, _, _, _, _, _, _, _, _, _, _, rfl, _⟩ := h; rfl)
      | (obtain ⟨_, _, _, _, _, _, _, _, _, _, _, _, _, _, _, _, _, rfl, _⟩ := h; rfl)
      | (obtain ⟨_, _, _, _, _, _, _, _, _, _, _, _, _, _, _, _, _, _, rfl, _⟩ := h; rfl)
      | (obtain ⟨_, _, _, _, _, _, _, _, _, _, _, _, _, _, _, _, _, _, _, rfl, _⟩ := h; rfl)
  · obtain ⟨md, L, N, R, rep, rws, n, ever, liv, nb, c, w, rfl, x, hw, hnb, hsy, nnw, hle, k⟩ := h
    obtain ⟨a, ha, haw⟩ := x.near hw
    obtain ⟨n1, n2, n3, n4, n5, n6, nrp, nap⟩ := x.parts
    have nad : a ≠ N := (nap _ ha).2.2.1
    have hm := x.hm
    have hn := x.hn
    have cl_Memory := T.cl_Memory
    have na_Memory_pairs := T.na_Memory_pairs
    have na_Memory_wide := T.na_Memory_wide
    have cl_Ties := T.cl_Ties
    have na_Ties_near := T.na_Ties_near
    have na_Ties_own_ever := T.na_Ties_own_ever
    have na_Ties_own_living := T.na_Ties_own_living
    have cl_Store := T.cl_Store
    have na_Store_kept_by_world := T.na_Store_kept_by_world
    have na_Store_own_size := T.na_Store_own_size
    have na_Store_own_ties := T.na_Store_own_ties
    refine ⟨_, (pss_cons (ps_set (i := 2) sc_law_dropped.nd rfl (Or.inl rfl) (pe_dpop1 (pe_dget (u1 hr.r.units) (pv 0) pe_str (fun _ _ => rfl)) (pv 1) ⟨rfl, rfl, rfl, rfl⟩))
      (pss_cons (ps_for (passes_of rfl) rfl (k_plist (K := K) rfl (pv 2)) (pg_name (i := 3) sc_law_dropped.nd rfl (Or.inl rfl))
      (pss_one (ps_expr (pe_bm PySem.F.plainAttrs_list PySem.F.slot_list_remove PySem.F.type_list_remove mt_remove (pe_dget (u1 hr.r.units) (pe_dget (u1 hr.r.units) (pv 0) pe_str (fun _ _ => rfl)) (pv 3) (fun _ _ => rfl)) (pa_cons (pv 1) pa_nil)))))
      (pss_one (ps_if (pt_cmpR (k_eq (K := K) rfl hr.r.units) (pe_callB (k_len (K := K) rfl) (by rfl) T.n_len (by decide +kernel) (pa_cons (pv 2) pa_nil)) pe_int (nomark _)) (pss_cons (ps_expr (pe_bm PySem.F.plainAttrs_list PySem.F.slot_list_append PySem.F.type_list_append mt_append (pe_dget (u1 hr.r.units) (pe_dget (u1 hr.r.units) (pv 0) pe_str (fun _ _ => rfl)) (pe_ix (k_ix (K := K) rfl) (pv 2) pe_int (fun _ _ => rfl)) (fun _ _ => rfl)) (pa_cons (pe_ix (k_ix (K := K) rfl) (pv 2) pe_int (fun _ _ => rfl)) pa_nil)))
      (pss_one (ps_expr (pe_bm PySem.F.plainAttrs_list PySem.F.slot_list_append PySem.F.type_list_append mt_append (pe_dget (u1 hr.r.units) (pe_dget (u1 hr.r.units) (pv 0) pe_str (fun _ _ => rfl)) (pe_ix (k_ix (K := K) rfl) (pv 2) pe_int (fun _ _ => rfl)) (fun _ _ => rfl)) (pa_cons (pe_ix (k_ix (K := K) rfl) (pv 2) pe_int (fun _ _ => rfl)) pa_nil))))) pss_nil)))), ?_⟩
    dsimp only [cxOf, st_1, st_2, st_3, st_4, st_5, st_6, List.length_cons, List.length_nil, List.replicate_succ, List.replicate_zero, Nat.reduceAdd, Nat.reduceSub]
    walk_at "gs"
    refine i_dp2 hn (val_rep x.nk ha) ?_
    rw [drop_rep]
    obtain ⟨k1, x1⟩ := x.drop w
    obtain ⟨rp, erp⟩ : ∃ rp, rp = rep.filter fun p => decide (p.1 ≠ w) := ⟨_, rfl⟩
    rw [← erp] at k1 x1 ⊢
    have mrp : ∀ p, p ∈ rp ↔ p ∈ rep ∧ p.1 ≠ w := fun p => by rw [erp, List.mem_filter, decide_eq_true_eq]
    have kro : rp.map (·.1) = (rep.map (·.1)).erase w := by rw [erp, keys_drop x.nk]
    have osub : ∀ b ∈ ownM md L N R rp, b ∈ ownM md L N R rep := fun b hb => by
      rcases mem_ownM.mp hb with h | h | h | h | ⟨p, hp, h⟩
      · exact mem_ownM.mpr (.inl h)
      · exact mem_ownM.mpr (.inr (.inl h))
      · exact mem_ownM.mpr (.inr (.inr (.inl h)))
      · exact mem_ownM.mpr (.inr (.inr (.inr (.inl h))))
      · exact mem_ownM.mpr (.inr (.inr (.inr (.inr ⟨p, ((mrp p).mp hp).1, h⟩))))
    have ha1 := k1.at_ _ _ haw (not_one nad)
    obtain ⟨H1, e1⟩ : ∃ H1, H1 = upd H N (.dK (rp.map kA)) := ⟨_, rfl⟩
    rw [← e1] at k1 x1 ha1 ⊢
    have kk1 : Kp (ownM md L N R rep) H H1 := k1.mono fun b hb => by rw [List.mem_singleton.mp hb]; exact ownM_N
    have inrep : ∀ u ∈ nb w, ∃ b, (u, b) ∈ rp ∧ b ≠ a := fun u hu => by
      obtain ⟨h1, h2, h3⟩ := hnb u hu
      obtain ⟨b, hb, _⟩ := x.near h1
      exact ⟨b, (mrp _).mpr ⟨hb, h2⟩, fun e => h2 (rep_inj nrp (a := a) (by rw [← e]; exact hb) ha)⟩
    have kput : ∀ {b : Addr} {u : Int} {G G' : Hp}, (u, b) ∈ rp → Kp [b] G G' → Kp (ownM md L N R rep) G G' := fun {b u G G'} hb kk => kk.mono fun z hz => by
      rw [List.mem_singleton.mp hz]
      exact osub _ (ownM_p hb)
    walk_at "gs"
    refine i_each (SqL.of ha1) (fun i σ H' => ∃ o : Option V, σ = [some (.ref md), some (.int w), some (.ref a), o] ∧ Kp (ownM md L N R rep) H H' ∧ H' a = some (.lst ((nb w).map V.int)) ∧
      MoX K H' md L N R rp rws n ever liv (fun u => if u ∈ (nb w).take i then (nb u).erase w else nb u) c) ?_ ?_ ?_ ?_
    · exact ⟨_, rfl, kk1, ha1, x1.congr (fun p _ => by rw [List.take_zero, if_neg List.not_mem_nil]) fun _ _ => rfl⟩
    · rintro i σ H' _ ⟨_, _, _, h, _⟩
      exact SqL.of h
    · rintro i y σ H' hy ⟨o, rfl, k2, ha2, x2⟩
      obtain ⟨u, hu, e⟩ := map_get hy
      subst e
      have hum : u ∈ nb w := List.mem_of_getElem? hu
      obtain ⟨h1, h2, h3⟩ := hnb u hum
      obtain ⟨b, hb, nba⟩ := inrep u hum
      have hm2 := x2.hm
      have hb2 := x2.nr _ hb
      have nin : u ∉ (nb w).take i := fun z => by
        obtain ⟨j, hj⟩ := List.getElem?_of_mem z
        have jl := (List.getElem?_eq_some_iff.mp hj).1
        rw [List.length_take] at jl
        rw [List.getElem?_take_of_lt (by omega)] at hj
        have := (List.getElem?_inj (List.getElem?_eq_some_iff.mp hj).1 nnw).mp (hj.trans hu.symm)
        omega
      have hb2 : H' b = some (.lst ((nb u).map V.int)) := by
        have e : (if u ∈ (nb w).take i then (nb u).erase w else nb u) = nb u := if_neg nin
        rw [← e]
        exact hb2
      walk_at "gs"
      refine i_dg x2.hn (val_rep x2.nk hb) ?_
      walk_at "gs"
      refine i_remove hb2 h3 ?_
      obtain ⟨k3, x3⟩ := x2.put hb ((nb u).erase w)
      walk_at "gs"
      refine ⟨_, rfl, Kp.trans k2 (kput hb k3), k3.at_ _ _ ha2 (not_one (Ne.symm nba)), x3.congr (fun p hp => ?_) fun _ _ => rfl⟩
      show (if p.1 = u then (nb u).erase w else (if p.1 ∈ (nb w).take i then (nb p.1).erase w else nb p.1)) = if p.1 ∈ (nb w).take (i + 1) then (nb p.1).erase w else nb p.1
      rw [List.take_add_one, hu]
      by_cases c : p.1 = u
      · rw [if_pos c, c, if_pos (by simp)]
      · rw [if_neg c]
        by_cases c2 : p.1 ∈ (nb w).take i
        · rw [if_pos c2, if_pos (List.mem_append.mpr (.inl c2))]
        · rw [if_neg c2, if_neg (by simp [c, c2])]
    rintro σ H' ⟨o, rfl, k2, ha2, x2⟩
    rw [List.length_map, List.take_length] at x2
    have fin : ∀ (nb2 : Int → List Int) (H2 : Hp), Kp (ownM md L N R rep) H H2 → MoX K H2 md L N R rp rws n ever liv nb2 c → (∀ p ∈ rp, nb2 p.1 = cutN nb w p.1) → Q .non H2 := fun nb2 H2 k3 x3 h4 =>
      k rp H2 k3 osub kro (x3.congr h4 fun _ _ => rfl)
    have er : ∀ p ∈ rp, (if p.1 ∈ nb w then (nb p.1).erase w else nb p.1) = (nb p.1).erase w := fun p hp => by
      by_cases c : p.1 ∈ nb w
      · rw [if_pos c]
      · rw [if_neg c, List.erase_of_not_mem fun z => c (hsy p.1 (List.mem_map.mpr ⟨p, ((mrp p).mp hp).1, rfl⟩) z)]
    have hm2 := x2.hm
    have hsa : SqL K H' a ((nb w).map V.int) := SqL.of ha2
    walk_at "gs"
    rw [List.length_map]
    refine i_dec (fun c => ?_) (fun c => ?_)
    · obtain ⟨p, q, epq⟩ : ∃ p q, nb w = [p, q] := by
        match h : nb w, c with
        | [p, q], _ => exact ⟨p, q, rfl⟩
      have npq : p ≠ q := by
        rw [epq] at nnw
        simp only [List.nodup_cons, List.mem_singleton] at nnw
        exact nnw.1
      have hp : p ∈ nb w := by rw [epq]; exact List.mem_cons_self
      have hq : q ∈ nb w := by rw [epq]; exact List.mem_cons_of_mem _ List.mem_cons_self
      obtain ⟨bp, hbp, nbp⟩ := inrep p hp
      obtain ⟨bq, hbq, nbq⟩ := inrep q hq
      have lp := hle p (hnb p hp).1
      have lq := hle q (hnb q hq).1
      have cp := x2.nr _ hbp
      have cq := x2.nr _ hbq
      rw [if_pos hp] at cp
      rw [if_pos hq] at cq
      have cp : H' bp = some (.lst (((nb p).erase w).map V.int)) := cp
      have cq : H' bq = some (.lst (((nb q).erase w).map V.int)) := cq
      have l1 := List.length_erase_le (a := w) (l := nb p)
      have l2 := List.length_erase_le (a := w) (l := nb q)
      have ha3 : H' a = some (.lst [V.int p, V.int q]) := by rw [ha2, epq]; rfl
      have nbpq : bp ≠ bq := fun e => npq (rep_inj (x2.parts.2.2.2.2.2.2.1) (a := bp) hbp (by rw [e]; exact hbq))
      walk_at "gs"
      refine i_dg x2.hn (val_rep x2.nk hbp) ?_
      walk_at "gs"
      refine i_app cp (small_sz (by rw [List.length_map]; omega)) ?_
      rw [snoc_int]
      obtain ⟨k3, x3⟩ := x2.put hbp ((nb p).erase w ++ [q])
      have ha4 := k3.at_ _ _ ha3 (not_one (Ne.symm nbp))
      have cq2 := k3.at_ _ _ cq (not_one (Ne.symm nbpq))
      have hm3 := x3.hm
      walk_at "gs"
      refine i_dg x3.hn (val_rep x3.nk hbq) ?_
      walk_at "gs"
      refine i_app cq2 (small_sz (by rw [List.length_map]; omega)) ?_
      rw [snoc_int]
      obtain ⟨k4, x4⟩ := x3.put hbq ((nb q).erase w ++ [p])
      walk_at "gs"
      refine fin _ _ (Kp.trans k2 (Kp.trans (kput hbp k3) (kput hbq k4))) x4 fun r hr2 => ?_
      have e := er r hr2
      rw [cut_two epq]
      show (if r.1 = q then (nb q).erase w ++ [p] else if r.1 = p then (nb p).erase w ++ [q] else if r.1 ∈ nb w then (nb r.1).erase w else nb r.1) = _
      by_cases c1 : r.1 = q
      · rw [if_pos c1, if_neg (fun z : r.1 = p => npq (z.symm.trans c1)), if_pos c1, c1]
      · rw [if_neg c1]
        by_cases c2 : r.1 = p
        · rw [if_pos c2, if_pos c2, c2]
        · rw [if_neg c2, if_neg c2, if_neg c1, e]
    · walk_at "gs"
      refine fin _ _ k2 x2 fun r hr2 => ?_
      rw [er r hr2]
      unfold cutN
      split
      · rename_i p q h
        rw [h] at c
        exact absurd rfl c
      · rfl

/-- ties, some of whose free ones may still go -/
structure Goes (D : Int → Int → Int) (ever : Int) (liv ks : List Int) (nb : Int → List Int) : Prop where
  t : TreeU D (Un ever)
  hU : ∀ u ∈ ks, Un ever u
  rp : Rp D ks nb
  nk : ks.Nodup
  nl : liv.Nodup
  sub : ∀ x ∈ liv, x ∈ ks
  e0 : 0 < ever
theorem Tr3.goes {D : Int → Int → Int} {ever w : Int} {liv ks : List Int} {nb : Int → List Int} (z : Tr3 D ever liv ks nb) : Goes D ever (liv.erase w) ks nb :=
  ⟨z.t, z.hU, z.rp, z.nk, z.nl.erase _, fun x hx => z.sub x (List.mem_of_mem_erase hx), z.e0⟩
theorem Goes.go {D : Int → Int → Int} {ever x : Int} {liv ks : List Int} {nb : Int → List Int} (z : Goes D ever liv ks nb) (hx : x ∈ ks) (n : x ∉ liv) (few : (nb x).length < 3) : Goes D ever liv (ks.erase x) (cutN nb x) := by
  have me : ∀ {u}, u ∈ ks.erase x ↔ u ≠ x ∧ u ∈ ks := fun {u} => z.nk.mem_erase_iff
  exact ⟨z.t, fun u hu => z.hU u (me.mp hu).2, z.rp.cut z.t z.hU z.nk hx few, z.nk.erase _, z.nl, fun y hy => me.mpr ⟨fun e => n (by rw [← e]; exact hy), z.sub y hy⟩, z.e0⟩
theorem Goes.tr3 {D : Int → Int → Int} {ever : Int} {liv ks : List Int} {nb : Int → List Int} (z : Goes D ever liv ks nb) (h : ∀ x ∈ ks, x ∉ liv → 3 ≤ (nb x).length) : Tr3 D ever liv ks nb :=
  ⟨z.t, z.hU, z.rp, z.nk, z.nl, z.sub, h, z.e0⟩
theorem cutV_one {xs : List V} : cutV xs none (some 1) = xs.take 1 := by
  have e := HT.sIx_nat xs.length xs.length 1
  unfold cutV
  rw [show ((1 : Int)) = ((1 : Nat) : Int) from rfl, e, HT.sIx_none]
  cases xs with
  | nil => rfl
  | cons x t =>
    rw [List.length_cons, Nat.min_eq_left (by omega), List.drop_zero]
def looseOf (liv ks : List Int) (nb : Int → List Int) : List Int := ks.filter fun u => decide (u ∉ liv ∧ (nb u).length < 3)
theorem looseOf_step {liv ks : List Int} {nb : Int → List Int} {i : Nat} {u : Int} (h : ks[i]? = some u) : looseOf liv (ks.take (i + 1)) nb = looseOf liv (ks.take i) nb ++ (if u ∉ liv ∧ (nb u).length < 3 then [u] else []) := by
  unfold looseOf
  rw [List.take_add_one, h, List.filter_append]
  congr 1
  by_cases c : u ∉ liv ∧ (nb u).length < 3
  · rw [if_pos c]
    simp only [Option.toList, List.filter_cons, decide_eq_true c, if_true, List.filter_nil]
  · rw [if_neg c]
    simp only [Option.toList, List.filter_cons, decide_eq_false c, List.filter_nil]
    rfl
def sp_lended (K : PySem.W.Frag) : Sp := fun vs H Q _ => ∃ (D : Int → Int → Int) (md L N R : Addr) (rep rws : List (Int × Addr)) (n ever : Int) (liv : List Int) (nb : Int → List Int) (c : Int → List Int) (w : Int), vs = [.ref md, .int w] ∧ MoX K H md L N R rep rws n ever liv nb c ∧ rws.map (·.1) = liv ∧ Tr3 D ever liv (rep.map (·.1)) nb ∧ ever ≤ 200 ∧ w ∈ liv ∧
  ∀ rep' rws' nb' H', Kp (ownM md L N R rep) H H' → (∀ b ∈ ownM md L N R rep', b ∈ ownM md L N R rep) → (∀ p ∈ rws', p ∈ rws) → rws'.map (·.1) = liv.erase w → MoX K H' md L N R rep' rws' n ever (liv.erase w) nb' c → Tr3 D ever (liv.erase w) (rep'.map (·.1)) nb' → Q .non H'
theorem sc_law_ended : FnScope ["_law_model_here", "_law_being", "_law_loose_here", "_law_one"] ["_law_model_here", "_law_being"] (defScope s_law_ended) :=
  ⟨rfl, rfl, rfl, by decide +kernel, rfl, by decide +kernel, by decide +kernel⟩
theorem ok_law_ended {P : Program} {w : World} {K : PySem.W.Frag} {mg : Str → Option Value} {base : Heap} (T : Txt K mg) :
    FnG P w K mg base 2 T.a_law_ended T.d_law_ended ["_law_model_here", "_law_being"] (sp_lended K) := by
  refine okD T.F_law_ended sc_law_ended (fun vs H Q E h => ?_) (fun cdv A outer s H vs Q E hr h => ?_)
  · first
      | (obtain ⟨_, rfl, _⟩ := h; rfl)
      | (obtain ⟨_, _, rfl, _⟩ := h; rfl)
      | (obtain ⟨_, _, _, rfl, _⟩ := h; rfl)
      | (obtain ⟨_, _, _, _, rfl, _⟩ := h; rfl)
      | (obtain ⟨_, _, _, _, _, rfl, _⟩ := h; rfl)
      | (obtain ⟨_, _, _, _, _, _, rfl, _⟩ := h; rfl)
      | (obtain ⟨_, _, _, _, _, _, _, rfl, _⟩ := h; rfl)
      | (obtain ⟨_, _, _, _, _, _, _, _, rfl, _⟩ := h; rfl)
      | (obtain ⟨_, _, _, _, _, _, _, _, _, rfl, _⟩ := h; rfl)
      | (obtain ⟨_, _, _, _, _, _, _, _, _, _, rfl, _⟩ := h; rfl)
      | (obtain ⟨_, _, _, _, _, _, _, _, _, _, _, rfl, _⟩ := h; rfl)
      | (obtain ⟨_, _, _, _, _, _, _, _, _, _, _, _, rfl, _⟩ := h; rfl)
      | (obtain ⟨_, _, _, _, _, _, _, _, _, _, _, _, _, rfl, _⟩ := h; rfl)
      | (obtain ⟨_, _, _, _, _, _, _, _, _, _, _, _, _, _, rfl, _⟩ := h; rfl)
      | (obtain ⟨_, _, _, _, _, _, _, _, _, _, _, _, _, _, _, rfl, _⟩ := h; rfl)
      | (obtain ⟨_, _, _, _, _, _, _, _, _, _, _, _, _, _, _, _, rfl, _⟩ := h; rfl)
      | (obtain ⟨_, _, _, _, _, _, _, _, _, _, _, _, _, _, _, _, _, rfl, _⟩ := h; rfl)
      | (obtain ⟨_, _, _, _, _, _, _, _, _, _, _, _, _, _, _, _, _, _, rfl, _⟩ := h; rfl)
      | (obtain ⟨_, _, _, _, _, _, _, _, _, _, _, _, _, _, _, _, _, _, _, rfl, _⟩ := h; rfl)
  · obtain ⟨D, md, L, N, R, rep, rws, n, ever, liv, nb, cc, w, rfl, x, kr, z, he, hw, k⟩ := h
    have hm := x.hm
    have hl := x.hl
    have lk := z.klen
    have ll := z.llen
    rw [List.length_map] at lk
    have nrw : (rws.map (·.1)).Nodup := by rw [kr]; exact z.nl
    obtain ⟨r, hrw, _, _⟩ := x.row (w := w) (by rw [kr]; exact hw)
    have o1 : ∀ {b : Addr}, b ∈ ownM md L N R rep → ∀ u ∈ [b], u ∈ ownM md L N R rep := fun {b} h u hu => by rw [List.mem_singleton.mp hu]; exact h
    have cl_Memory := T.cl_Memory
    have na_Memory_pairs := T.na_Memory_pairs
    have na_Memory_wide := T.na_Memory_wide
    have cl_Ties := T.cl_Ties
    have na_Ties_near := T.na_Ties_near
    have na_Ties_own_ever := T.na_Ties_own_ever
    have na_Ties_own_living := T.na_Ties_own_living
    have cl_Store := T.cl_Store
    have na_Store_kept_by_world := T.na_Store_kept_by_world
    have na_Store_own_size := T.na_Store_own_size
    have na_Store_own_ties := T.na_Store_own_ties
    refine ⟨_, (pss_cons (ps_expr (pe_bm PySem.F.plainAttrs_list PySem.F.slot_list_remove PySem.F.type_list_remove mt_remove (pe_dget (u1 hr.r.units) (pv 0) pe_str (fun _ _ => rfl)) (pa_cons (pv 1) pa_nil)))
      (pss_cons (ps_expr (pe_dpop1 (pe_dget (u1 hr.r.units) (pv 0) pe_str (fun _ _ => rfl)) (pv 1) ⟨rfl, rfl, rfl, rfl⟩))
      (pss_cons (ps_set (i := 2) sc_law_ended.nd rfl (Or.inl rfl) (pe_lst (pa_cons (pv 1) pa_nil)))
      (pss_one (ps_while (passes_of rfl) (pt_cmpR (k_ne (K := K) rfl hr.r.units) (pv 2) (pe_lst pa_nil) (nomark _)) (pss_cons (ps_lock (ps_setLc (i := 2) (own := [("_law_one", 3)]) (g := (gName 3)) rfl sc_law_ended.nd rfl rfl (sw_true rfl rfl rfl (by decide +kernel)) (pi_keys (pe_dget (u1 hr.r.units) (pv 0) pe_str (fun _ _ => rfl))) (blkOk_by (own := [("_law_one", 3)]) (N := ["_law_model_here", "_law_being", "_law_loose_here", "_law_one"]) (sc := defScope s_law_ended) (by decide +kernel)) (fun _ _ _ _ _ => (pg_name (i := 3) sc_law_ended.nd rfl (Or.inl rfl))) (fun _ _ _ _ _ => (pts_one (PW.pt (pw_and (pt_cmpR (k_nin (K := K) rfl) (pv 3) (pe_dget (u1 hr.r.units) (pv 0) pe_str (fun _ _ => rfl)) (rfl)) (pw_and1 (pt_cmpR op_lt (pe_callB (k_len (K := K) rfl) (by rfl) T.n_len (by decide +kernel) (pa_cons (pe_dget (u1 hr.r.units) (pe_dget (u1 hr.r.units) (pv 0) pe_str (fun _ _ => rfl)) (pv 3) (fun _ _ => rfl)) pa_nil)) pe_int (nomark _))))))) (fun _ _ _ _ _ => (pv 3))))
      (pss_one (ps_for (passes_of rfl) rfl (k_plist (K := K) rfl (pe_slice (k_sl (K := K) rfl) (pv 2) po_none (po_some pe_int))) (pg_name (i := 3) sc_law_ended.nd rfl (Or.inl rfl))
      (pss_one (ps_expr (d1 (ok_law_dropped T) (hr.mono (by decide)) (by rfl) T.m_law_dropped T.F_law_dropped.kp T.b_law_dropped passL (pa_cons (pv 0) (pa_cons (pv 3) pa_nil))))))))))))), ?_⟩
    dsimp only [cxOf, st_1, st_2, st_3, st_4, st_5, st_6, List.length_cons, List.length_nil, List.replicate_succ, List.replicate_zero, Nat.reduceAdd, Nat.reduceSub]
    walk_at "gs"
    refine i_remove hl hw ?_
    obtain ⟨k1, x1⟩ := x.toLiv (liv.erase w)
    obtain ⟨H1, e1⟩ : ∃ H1, H1 = upd H L (.lst ((liv.erase w).map V.int)) := ⟨_, rfl⟩
    rw [← e1] at k1 x1 ⊢
    have hm1 := x1.hm
    have hr1 := x1.hr
    walk_at "gs"
    refine i_dp2 hr1 (val_rep nrw hrw) ?_
    rw [drop_rep]
    obtain ⟨k2, x2⟩ := x1.rowDrop w
    obtain ⟨rw1, erw⟩ : ∃ rw1, rw1 = rws.filter fun p => decide (p.1 ≠ w) := ⟨_, rfl⟩
    have krw : rw1.map (·.1) = liv.erase w := by rw [erw, keys_drop nrw, kr]
    have srw : ∀ p ∈ rw1, p ∈ rws := fun p hp => by rw [erw] at hp; exact (List.mem_filter.mp hp).1
    rw [← erw] at k2 x2 ⊢
    obtain ⟨H2, e2⟩ : ∃ H2, H2 = upd H1 R (.dK (rw1.map kA)) := ⟨_, rfl⟩
    rw [← e2] at k2 x2 ⊢
    have k02 : Kp (ownM md L N R rep) H H2 := Kp.trans (k1.mono (o1 ownM_L)) (k2.mono (o1 ownM_R))
    walk_at "gs"
    refine i_new fun A fA => ?_
    have fA0 : Fr H A := k02.free fA
    have nA : A ∉ ownM md L N R rep := x.fr fA0
    have kAa := Kp.new (ws := []) (o := HO.lst [.int w]) fA
    walk_at "gs"
    refine i_while (fun m σ H' => ∃ (o : Option V) (rep1 : List (Int × Addr)) (nb1 : Int → List Int) (lo : List Int) (B : Addr), m = 2 * rep1.length + min lo.length 1 ∧ σ = [some (.ref md), some (.int w), some (.ref B), o] ∧
      Kp (ownM md L N R rep) H H' ∧ MoX K H' md L N R rep1 rw1 n ever (liv.erase w) nb1 cc ∧ (∀ b ∈ ownM md L N R rep1, b ∈ ownM md L N R rep) ∧ H' B = some (.lst (lo.map V.int)) ∧ rep1.length ≤ rep.length ∧ Goes D ever (liv.erase w) (rep1.map (·.1)) nb1 ∧ (lo = [] → ∀ x ∈ rep1.map (·.1), x ∉ liv.erase w → 3 ≤ (nb1 x).length)) (2 * rep.length + 1) ?_ ?_
    · exact ⟨none, rep, nb, [w], A, rfl, rfl, Kp.upd k02 fA0, x2.kp0 kAa, fun _ h => h, upd_same, Nat.le_refl _, z.goes, fun h => nomatch h⟩
    rintro m σ H3 ⟨o, rep1, nb1, lo, B, rfl, rfl, k3, x3, sub3, hB, le3, g3, red3⟩
    walk_at "gs"
    refine i_new fun q fq => ?_
    have kq : Kp [] H3 (upd H3 q (.lst [])) := Kp.new fq
    have hB4 := kq.at_ _ _ hB not_nil
    walk_at "gs"
    refine ne_ints0 (SqL.of hB4) upd_same ?_
    have x4 := x3.kp0 kq
    have k4 : Kp (ownM md L N R rep) H (upd H3 q (.lst [])) := Kp.trans k3 kq.wide
    obtain ⟨H4, e4⟩ : ∃ H4, H4 = upd H3 q (.lst []) := ⟨_, rfl⟩
    rw [← e4] at hB4 x4 k4 ⊢
    walk_at "gs"
    refine i_decN (fun c => ?_) (fun c => ?_)
    · refine i_loop ?_
      obtain ⟨n1, n2, n3, n4, n5, n6, n7, n8⟩ := x4.parts
      have lo1 : 1 ≤ lo.length := by
        cases lo with
        | nil => exact absurd rfl c
        | cons _ _ => simp
      refine i_lockS x4.hn fun od => ?_
      have hmL : (upd H4 N (.frz od (.dK (rep1.map kA)))) md = some (.dK (mKs n ever L N R)) := by rw [upd_ne n2]; exact x4.hm
      have hLL : (upd H4 N (.frz od (.dK (rep1.map kA)))) L = some (.lst ((liv.erase w).map V.int)) := by rw [upd_ne n4]; exact x4.hl
      have hPL : ∀ p ∈ rep1, (upd H4 N (.frz od (.dK (rep1.map kA)))) p.2 = some (.lst ((nb1 p.1).map V.int)) := fun p hp => by rw [upd_ne (n8 p hp).2.2.1]; exact x4.nr p hp
      obtain ⟨HL, eL⟩ : ∃ HL, HL = upd H4 N (.frz od (.dK (rep1.map kA))) := ⟨_, rfl⟩
      have hNL : HL N = some (.frz od (.dK (rep1.map kA))) := by rw [eL]; exact upd_same
      rw [← eL] at hmL hLL hPL ⊢
      walk_at "gs"
      refine i_keyG (o := od) hNL (fun R0 i H' => Kp [] HL H' ∧ H' R0 = some (.lst ((looseOf (liv.erase w) ((rep1.map (·.1)).take i) nb1).map V.int))) ?_ ?_ ?_ ?_
      · intro R0 fR
        exact ⟨Kp.new fR, upd_same⟩
      · rintro R0 i H' fR ⟨k5, _⟩
        exact k5.at_ _ _ hNL not_nil
      · rintro R0 i ky v H' fR hk ⟨k5, hR⟩
        obtain ⟨p, hp, e⟩ := map_get hk
        cases e
        have hpm : p ∈ rep1 := List.mem_of_getElem? hp
        have hik : (rep1.map (·.1))[i]? = some p.1 := by rw [List.getElem?_map, hp]; rfl
        have hm5 := k5.at_ _ _ hmL not_nil
        have hN5 := k5.at_ _ _ hNL not_nil
        have hL5 : SqL K H' L ((liv.erase w).map V.int) := SqL.of (k5.at_ _ _ hLL not_nil)
        have hP5 : SqL K H' p.2 ((nb1 p.1).map V.int) := SqL.of (k5.at_ _ _ (hPL p hpm) not_nil)
        have hil := (List.getElem?_eq_some_iff.mp hp).1
        have ln : (looseOf (liv.erase w) ((rep1.map (·.1)).take i) nb1).length ≤ 1000 := by
          have e := List.length_filter_le (fun u => decide (u ∉ liv.erase w ∧ (nb1 u).length < 3)) ((rep1.map (·.1)).take i)
          rw [List.length_take, List.length_map] at e
          unfold looseOf
          omega
        show gName 3 (.int p.1) _ _ _
        walk_at "gs"
        refine i_decN (fun c1 => ?_) (fun c1 => ?_)
        · walk_at "gs"
          refine i_dgF hN5 (val_rep x4.nk hpm) ?_
          walk_at "gs"
          rw [List.length_map]
          refine i_dec (fun c2 => ?_) (fun c2 => ?_)
          · walk_at "gs"
            refine ⟨_, hR, small_sz (by rw [List.length_map]; omega), Kp.upd k5 fR, ?_⟩
            rw [looseOf_step hik, if_pos ⟨c1, by omega⟩, List.map_append]
            exact upd_same
          · refine ⟨k5, ?_⟩
            rw [looseOf_step hik, if_neg (fun y => c2 (by omega)), List.append_nil]
            exact hR
        · refine ⟨k5, ?_⟩
          rw [looseOf_step hik, if_neg (fun y => y.1 c1), List.append_nil]
          exact hR
      rintro R0 H5 fR ⟨k5, hR⟩
      rw [List.length_map, List.take_of_length_le (by rw [List.length_map]; exact Nat.le_refl _)] at hR
      have hN5 := k5.at_ _ _ hNL not_nil
      refine ⟨hN5, ?_⟩
      rw [eL] at k5 fR
      have k45 : Kp [] H4 (upd H5 N (.dK (rep1.map kA))) := kp_unl x4.hn (fun z => z) k5
      have fR4 : Fr H4 R0 := by walk_at "g_fr"
      have nRN : R0 ≠ N := Ne.symm (fr_ne x4.hn fR4)
      have hR6 : (upd H5 N (.dK (rep1.map kA))) R0 = some (.lst ((looseOf (liv.erase w) (rep1.map (·.1)) nb1).map V.int)) := by rw [upd_ne nRN]; exact hR
      have x6 := x4.kp0 k45
      have k6 : Kp (ownM md L N R rep) H (upd H5 N (.dK (rep1.map kA))) := Kp.trans k4 k45.wide
      obtain ⟨H6, e6⟩ : ∃ H6, H6 = upd H5 N (.dK (rep1.map kA)) := ⟨_, rfl⟩
      rw [← e6] at hR6 x6 k6 k45 ⊢
      have nR0 : R0 ∉ ownM md L N R rep := x.fr (k4.free fR4)
      walk_at "gs"
      refine i_new fun S fS => ?_
      rw [cutV_one]
      have kS := Kp.new (ws := []) (o := HO.lst (((looseOf (liv.erase w) (rep1.map (·.1)) nb1).map V.int).take 1)) fS
      have hS : (upd H6 S (.lst (((looseOf (liv.erase w) (rep1.map (·.1)) nb1).map V.int).take 1))) S = some (.lst (((looseOf (liv.erase w) (rep1.map (·.1)) nb1).map V.int).take 1)) := upd_same
      have hR7 := kS.at_ _ _ hR6 not_nil
      have x7 := x6.kp0 kS
      have k7 := Kp.trans k6 kS.wide
      have nS : S ∉ ownM md L N R rep := x.fr (k6.free fS)
      have nSR : R0 ≠ S := fr_ne hR6 fS
      obtain ⟨H7, e7⟩ : ∃ H7, H7 = upd H6 S (.lst (((looseOf (liv.erase w) (rep1.map (·.1)) nb1).map V.int).take 1)) := ⟨_, rfl⟩
      rw [← e7] at hS hR7 x7 k7 ⊢
      have mlo : ∀ y, y ∈ looseOf (liv.erase w) (rep1.map (·.1)) nb1 ↔ y ∈ rep1.map (·.1) ∧ y ∉ liv.erase w ∧ (nb1 y).length < 3 := fun y => by
        unfold looseOf
        rw [List.mem_filter, decide_eq_true_eq]
      obtain ⟨lo2, elo⟩ : ∃ lo2, lo2 = looseOf (liv.erase w) (rep1.map (·.1)) nb1 := ⟨_, rfl⟩
      rw [← elo] at hS hR7 mlo
      cases lo2 with
      | nil =>
        refine i_each (SqL.of hS) (fun i σ H' => σ = [some (.ref md), some (.int w), some (.ref R0), o] ∧ H' = H7) ⟨rfl, rfl⟩ (fun i σ H' _ h => by rw [h.2]; exact SqL.of hS) (fun i y σ H' hy _ => nomatch hy) ?_
        rintro σ H' ⟨rfl, rfl⟩
        refine ⟨2 * rep1.length, by omega, o, rep1, nb1, [], R0, by simp, rfl, k7, x7, sub3, hR7, le3, g3, fun _ y hy ny => ?_⟩
        refine Classical.byContradiction fun q => ?_
        exact nomatch ((mlo y).mpr ⟨hy, ny, by omega⟩)
      | cons y ys =>
        obtain ⟨y1, y2, y3⟩ := (mlo y).mp List.mem_cons_self
        have hS1 : H7 S = some (.lst [V.int y]) := hS
        refine i_each (SqL.of hS1) (fun i σ H' => (i = 0 → σ = [some (.ref md), some (.int w), some (.ref R0), o] ∧ H' = H7) ∧ (i = 1 → ∃ (o2 : Option V) (rep2 : List (Int × Addr)), σ = [some (.ref md), some (.int w), some (.ref R0), o2] ∧ rep2.length < rep1.length ∧ rep2.map (·.1) = (rep1.map (·.1)).erase y ∧ Kp (ownM md L N R rep) H H' ∧ MoX K H' md L N R rep2 rw1 n ever (liv.erase w) (cutN nb1 y) cc ∧ (∀ b ∈ ownM md L N R rep2, b ∈ ownM md L N R rep) ∧ H' R0 = some (.lst ((y :: ys).map V.int)) ∧ H' S = some (.lst [V.int y]))) ⟨fun _ => ⟨rfl, rfl⟩, fun h => nomatch h⟩ ?_ ?_ ?_
        · rintro i σ H' hi ⟨h0, h1⟩
          have c : i = 0 ∨ i = 1 := by
            rw [List.length_singleton] at hi
            omega
          rcases c with c | c
          · rw [(h0 c).2]
            exact SqL.of hS1
          · obtain ⟨_, _, _, _, _, _, _, _, _, h⟩ := h1 c
            exact SqL.of h
        · rintro i v σ H' hv ⟨h0, _⟩
          have hi := (List.getElem?_eq_some_iff.mp hv).1
          rw [List.length_singleton] at hi
          have c : i = 0 := by omega
          subst c
          cases hv
          obtain ⟨rfl, rfl⟩ := h0 rfl
          walk_at "gs"
          refine ⟨md, L, N, R, rep1, rw1, n, ever, liv.erase w, nb1, cc, y, rfl, x7, y1, fun u hu => ?_, fun u hu h => g3.rp.sym g3.t g3.hU hu h, g3.rp.nd y y1, fun u hu => ?_, fun rep2 H8 k8 sub8 kr8 x8 => ?_⟩
          · obtain ⟨a1, a2, _⟩ := (g3.rp.adj y y1 u).mp hu
            exact ⟨a1, a2, g3.rp.sym g3.t g3.hU y1 hu⟩
          · have := un_len (g3.rp.nd u hu) fun v hv => g3.hU v ((g3.rp.adj u hu v).mp hv).1
            omega
          · walk_at "gs"
            refine ⟨fun h => (nomatch h), fun _ => ⟨_, rep2, rfl, ?_, kr8, Kp.trans k7 (k8.mono sub3), x8, fun b hb => sub3 b (sub8 b hb), k8.at_ _ _ hR7 (fun h => nR0 (sub3 _ h)), k8.at_ _ _ hS1 (fun h => nS (sub3 _ h))⟩⟩
            have e := congrArg List.length kr8
            rw [List.length_map, List.length_erase_of_mem y1, List.length_map] at e
            have := List.length_pos_of_mem y1
            rw [List.length_map] at this
            omega
        · rintro σ H' ⟨_, h1⟩
          obtain ⟨o2, rep2, rfl, lt2, kr8, k8, x8, sub8, hR8, _⟩ := h1 rfl
          refine ⟨2 * rep2.length + min (y :: ys).length 1, by rw [List.length_cons]; omega, o2, rep2, cutN nb1 y, y :: ys, R0, rfl, rfl, k8, x8, sub8, hR8, by omega, by rw [kr8]; exact g3.go y1 y2 y3, fun h => nomatch h⟩
    · walk_at "gs"
      exact k rep1 rw1 nb1 H4 k4 sub3 srw krw x4 (g3.tr3 (red3 c))

theorem PrsAt.app {H : Hp} {ys : List V} {qs : List (Int × Int)} (g : PrsAt H ys qs) : ∀ {xs : List V} {ps : List (Int × Int)}, PrsAt H xs ps → PrsAt H (xs ++ ys) (ps ++ qs)
  | [], [], _ => g
  | _ :: _, _ :: _, ⟨a, r⟩ => ⟨a, PrsAt.app g r⟩
  | [], _ :: _, h => h.elim
  | _ :: _, [], h => h.elim
def sp_lpairs (K : PySem.W.Frag) : Sp := fun vs H Q _ => ∃ (D : Int → Int → Int) (md L N R : Addr) (rep rw : List (Int × Addr)) (n ever : Int) (liv : List Int) (nb : Int → List Int) (c : Int → List Int), vs = [.ref md] ∧ MoX K H md L N R rep rw n ever liv nb c ∧ Tr3 D ever liv (rep.map (·.1)) nb ∧ ever ≤ 200 ∧
  ∀ R0 rs H', Fr H R0 → Kp [] H H' → LD K H' R0 (rs.map d2) → RowsOf (rep.map (·.1)) nb rs → Q (.ref R0) H'
theorem sc_law_pairs : FnScope ["_law_model_here", "_law_found", "_law_low", "_law_sides", "_law_high"] ["_law_model_here"] (defScope s_law_pairs) :=
  ⟨rfl, rfl, rfl, by decide +kernel, rfl, by decide +kernel, by decide +kernel⟩
theorem ok_law_pairs {P : Program} {w : World} {K : PySem.W.Frag} {mg : Str → Option Value} {base : Heap} (T : Txt K mg) :
    FnG P w K mg base 1 T.a_law_pairs T.d_law_pairs ["_law_model_here"] (sp_lpairs K) := by
  refine okD T.F_law_pairs sc_law_pairs (fun vs H Q E h => ?_) (fun cdv A outer s H vs Q E hr h => ?_)
  · first
      | (obtain ⟨_, rfl, _⟩ := h; rfl)
      | (obtain ⟨_, _, rfl, _⟩ := h; rfl)
      | (obtain ⟨_, _, _, rfl, _⟩ := h; rfl)
      | (obtain ⟨_, _, _, _, rfl, _⟩ := h; rfl)
      | (obtain ⟨_, _, _, _, _, rfl, _⟩ := h; rfl)
      | (obtain ⟨_, _, _, _, _, _, rfl, _⟩ := h; rfl)
      | (obtain ⟨_, _, _, _, _, _, _, rfl, _⟩ := h; rfl)
      | (obtain ⟨_, _, _, _, _, _, _, _, rfl, _⟩ := h; rfl)
      | (obtain ⟨_, _, _, _, _, _, _, _, _, rfl, _⟩ := h; rfl)
      | (obtain ⟨_, _, _, _, _, _, _, _, _, _, rfl, _⟩ := h; rfl)
      | (obtain ⟨_, _, _, _, _, _, _, _, _, _, _, rfl, _⟩ := h; rfl)
      | (obtain ⟨_, _, _, _, _, _, _, _, _, _, _, _, rfl, _⟩ := h; rfl)
      | (obtain ⟨_, _, _, _, _, _, _, _, _, _, _, _, _, rfl, _⟩ := h; rfl)
      | (obtain ⟨_, _, _, _, _, _, _, _, _, _, _, _, _, _, rfl, _⟩ := h; rfl)
      | (obtain ⟨_, _, _, _, _, _, _, _, _, _, _, _, _, _, _, rfl, _⟩ := h; rfl)
      | (obtain ⟨_, _, _, _, _, _, _, _, _, _, _, _, _, _, _, _, rfl, _⟩ := h; rfl)
      | (obtain ⟨_, _, _, _, _, _, _, _, _, _, _, _, _, _, _, _, _, rfl, _⟩ := h; rfl)
      | (obtain ⟨_, _, _, _, _, _, _, _, _, _, _, _, _, _, _, _, _, _, rfl, _⟩ := h; rfl)
      | (obtain ⟨_, _, _, _, _, _, _, _, _, _, _, _, _, _, _, _, _, _, _, rfl, _⟩ := h; rfl)
  · obtain ⟨D, md, L, N, R, rep, rw, n, ever, liv, nb, cc, rfl, x, z, he, k⟩ := h
    have klen := z.klen
    rw [List.length_map] at klen
    have hm := x.hm
    have cl_Memory := T.cl_Memory
    have na_Memory_pairs := T.na_Memory_pairs
    have na_Memory_wide := T.na_Memory_wide
    have cl_Ties := T.cl_Ties
    have na_Ties_near := T.na_Ties_near
    have na_Ties_own_ever := T.na_Ties_own_ever
    have na_Ties_own_living := T.na_Ties_own_living
    have cl_Store := T.cl_Store
    have na_Store_kept_by_world := T.na_Store_kept_by_world
    have na_Store_own_size := T.na_Store_own_size
    have na_Store_own_ties := T.na_Store_own_ties
    refine ⟨_, (pss_cons (ps_set (i := 1) sc_law_pairs.nd rfl (Or.inl rfl) (pe_lst pa_nil))
      (pss_cons (ps_lock (ps_for (passes_of rfl) rfl (pi_items (pe_dget (u1 hr.r.units) (pv 0) pe_str (fun _ _ => rfl))) (k_gtup (K := K) 2 rfl rfl (pgs_cons (pg_name (i := 2) sc_law_pairs.nd rfl (Or.inr rfl)) (pgs_cons (pg_name (i := 3) sc_law_pairs.nd rfl (Or.inl rfl)) pgs_nil)))
      (pss_one (ps_expr (pe_bm PySem.F.plainAttrs_list PySem.F.slot_list_extend PySem.F.type_list_extend mt_extend (pv 1) (pa_cons (pe_lc (own := [("_law_high", 4)]) (g := (gName 4)) rfl sc_law_pairs.nd (k_plist (K := K) rfl (pv 3)) (blkOk_by (own := [("_law_high", 4)]) (N := ["_law_model_here", "_law_found", "_law_low", "_law_sides", "_law_high"]) (sc := defScope s_law_pairs) (by decide +kernel)) (fun _ _ _ _ _ => (pg_name (i := 4) sc_law_pairs.nd rfl (Or.inl rfl))) (fun _ _ _ _ _ => (pts_one (pt_cmpR op_lt (pv 2) (pv 4) (nomark _)))) (fun _ _ _ _ _ => (pe_tup (pa_cons (pv 2) (pa_cons (pv 4) pa_nil))))) pa_nil))))))
      (pss_one (ps_ret (pe_callB (k_sortedP (K := K) rfl) (by rfl) T.n_sorted (by decide +kernel) (pa_cons (pv 1) pa_nil)))))), ?_⟩
    dsimp only [cxOf, st_1, st_2, st_3, st_4, st_5, st_6, List.length_cons, List.length_nil, List.replicate_succ, List.replicate_zero, Nat.reduceAdd, Nat.reduceSub]
    walk_at "gs"
    refine i_new fun F fF => ?_
    have kF : Kp [] H (upd H F (.lst [])) := Kp.new fF
    have hF : (upd H F (.lst [])) F = some (.lst []) := upd_same
    have x1 := x.kp0 kF
    obtain ⟨H1, e1⟩ : ∃ H1, H1 = upd H F (.lst []) := ⟨_, rfl⟩
    rw [← e1] at kF hF x1 ⊢
    have nF : F ∉ ownM md L N R rep := x.fr fF
    have nFN : F ≠ N := fun e => nF (by rw [e]; exact ownM_N)
    obtain ⟨n1, n2, n3, n4, n5, n6, n7, n8⟩ := x1.parts
    walk_at "gs"
    refine i_lockS x1.hn fun od => ?_
    refine i_forIt ?_
    have hmL : (upd H1 N (.frz od (.dK (rep.map kA)))) md = some (.dK (mKs n ever L N R)) := by rw [upd_ne n2]; exact x1.hm
    have hPL : ∀ p ∈ rep, (upd H1 N (.frz od (.dK (rep.map kA)))) p.2 = some (.lst ((nb p.1).map V.int)) := fun p hp => by rw [upd_ne (n8 p hp).2.2.1]; exact x1.nr p hp
    have hFL : (upd H1 N (.frz od (.dK (rep.map kA)))) F = some (.lst []) := by rw [upd_ne nFN]; exact hF
    obtain ⟨HL, eL⟩ : ∃ HL, HL = upd H1 N (.frz od (.dK (rep.map kA))) := ⟨_, rfl⟩
    have hNL : HL N = some (.frz od (.dK (rep.map kA))) := by rw [eL]; exact upd_same
    rw [← eL] at hmL hPL hFL ⊢
    have nFp : ∀ p ∈ rep, p.2 ≠ F := fun p hp e => nF (by rw [← e]; exact ownM_p hp)
    walk_at "gs"
    refine i_eachIt hNL (fun i σ H' => ∃ o2 o3 o4 : Option V, σ = [some (.ref md), some (.ref F), o2, o3, o4] ∧ Kp [F] HL H' ∧ ∃ xs, H' F = some (.lst xs) ∧ PrsAt H' xs (rws nb ((rep.map (·.1)).take i))) ?_ ?_ ?_ ?_
    · exact ⟨_, _, _, rfl, Kp.refl, [], hFL, trivial⟩
    · rintro i σ H' ⟨_, _, _, _, k1, _⟩
      exact k1.at_ _ _ hNL (not_one (Ne.symm nFN))
    · rintro i ky v T σ H' hk ⟨o2, o3, o4, rfl, k1, xs, hxs, px⟩ fT
      obtain ⟨p, hp, e⟩ := map_get hk
      cases e
      have hpm : p ∈ rep := List.mem_of_getElem? hp
      have hik : (rep.map (·.1))[i]? = some p.1 := by rw [List.getElem?_map, hp]; rfl
      have hpk : p.1 ∈ rep.map (·.1) := List.mem_of_getElem? hik
      have hub := z.nlen hpk
      have hil := (List.getElem?_eq_some_iff.mp hp).1
      have kT : Kp [] H' (upd H' T (.tup [V.int p.1, V.ref p.2])) := Kp.new fT
      have hT : SqT K (upd H' T (.tup [V.int p.1, V.ref p.2])) T [V.int p.1, V.ref p.2] := SqT.of upd_same
      have hpa := kT.at_ _ _ (k1.at_ _ _ (hPL p hpm) (not_one (nFp p hpm))) not_nil
      have hF2 := kT.at_ _ _ hxs not_nil
      have px2 := px.kp kT
      have k2 := Kp.trans k1 kT.wide
      obtain ⟨H2, e2⟩ : ∃ H2, H2 = upd H' T (.tup [V.int p.1, V.ref p.2]) := ⟨_, rfl⟩
      have hlen : (rws nb ((rep.map (·.1)).take i)).length ≤ 40000 := by
        have e := rws_len (nb := nb) (n := 200) (ks := (rep.map (·.1)).take i) fun u hu => by
          have := z.nlen (List.mem_of_mem_take hu)
          omega
        have e2 : ((rep.map (·.1)).take i).length ≤ 200 := by
          rw [List.length_take, List.length_map]
          omega
        have e3 := Nat.mul_le_mul_right 200 e2
        omega
      have hxl := px2.len
      show gTup K 2 _ (.ref T) _ (upd H' T (.tup [V.int p.1, V.ref p.2])) _
      rw [← e2] at kT hT hpa hF2 px2 k2 ⊢
      walk_at "gs"
      refine i_elts (SqL.of hpa) (fun R0 j G => Kp [] H2 G ∧ ∃ ys, G R0 = some (.lst ys) ∧ PrsAt G ys ((((nb p.1).take j).filter fun v => decide (p.1 < v)).map fun v => (p.1, v))) ?_ ?_ ?_ ?_
      · intro R0 fR
        exact ⟨Kp.new fR, [], upd_same, trivial⟩
      · rintro R0 j G fR _ ⟨k3, _⟩
        exact SqL.of (k3.at_ _ _ hpa not_nil)
      · rintro R0 j y G fR hy ⟨k3, ys, hys, py⟩
        obtain ⟨v, hv, e⟩ := map_get hy
        subst e
        have hyl := py.len
        rw [List.length_map] at hyl
        have hfl := List.length_filter_le (fun v => decide (p.1 < v)) ((nb p.1).take j)
        rw [List.length_take] at hfl
        have step : ((((nb p.1).take (j + 1)).filter fun v => decide (p.1 < v)).map fun v => (p.1, v)) = ((((nb p.1).take j).filter fun v => decide (p.1 < v)).map fun v => (p.1, v)) ++ (if p.1 < v then [(p.1, v)] else []) := by
          rw [List.take_add_one, hv, List.filter_append, List.map_append]
          congr 1
          by_cases c : p.1 < v <;> simp [c]
        walk_at "gs"
        refine i_dec (fun c => ?_) (fun c => ?_)
        · walk_at "gs"
          refine i_new fun W fW => ?_
          have kW : Kp [] G (upd G W (.tup [V.int p.1, V.int v])) := Kp.new fW
          have hW := kW.at_ _ _ hys not_nil
          have kR : Kp [R0] (upd G W (.tup [V.int p.1, V.int v])) (upd (upd G W (.tup [V.int p.1, V.int v])) R0 (.lst (ys ++ [V.ref W]))) := kp_set hW (fun z => z)
          walk_at "gs"
          refine ⟨ys, hW, small_sz (by omega), Kp.upd (Kp.trans k3 kW) fR, ys ++ [.ref W], upd_same, ?_⟩
          rw [step, if_pos c]
          exact (PrsAt.snoc (q := (p.1, v)) upd_same (py.kp kW)).kp kR
        · refine ⟨k3, ys, hys, ?_⟩
          rw [step, if_neg c, List.append_nil]
          exact py
      · rintro R0 G fR ⟨k3, ys, hys, py⟩
        rw [List.length_map, List.take_length] at py
        have hF3 := k3.at_ _ _ hF2 not_nil
        have pxG := px2.kp k3
        have hyl := py.len
        rw [List.length_map] at hyl
        have hfl := List.length_filter_le (fun v => decide (p.1 < v)) (nb p.1)
        have kE : Kp [F] G (upd G F (.lst (xs ++ ys))) := kp_set hF3 (fun z => z)
        walk_at "gs"
        refine i_extend hF3 hys (by omega) ?_
        walk_at "gs"
        refine ⟨_, _, _, rfl, Kp.trans k2 (Kp.trans k3.wide kE), xs ++ ys, upd_same, ?_⟩
        rw [rws_step (l := []) hik]
        exact (PrsAt.app py pxG).kp kE
    rintro σ H5 ⟨o2, o3, o4, rfl, k5, xs, hxs, px⟩
    rw [List.length_map, List.take_of_length_le (by rw [List.length_map]; exact Nat.le_refl _)] at px
    have hN5 := k5.at_ _ _ hNL (not_one (Ne.symm nFN))
    refine ⟨hN5, ?_⟩
    rw [eL] at k5
    have k15 : Kp [F] H1 (upd H5 N (.dK (rep.map kA))) := kp_unlW x1.hn (fun z => z) k5 fun b hb e => nFN (by rw [e, List.mem_singleton.mp hb])
    have k05 : Kp [] H (upd H5 N (.dK (rep.map kA))) := Kp.drop (Kp.trans kF.wide k15) fF
    have hF6 : (upd H5 N (.dK (rep.map kA))) F = some (.lst xs) := by rw [upd_ne nFN]; exact hxs
    have px6 := px.unl (v := .dK (rep.map kA)) hN5
    obtain ⟨H6, e6⟩ : ∃ H6, H6 = upd H5 N (.dK (rep.map kA)) := ⟨_, rfl⟩
    rw [← e6] at k05 hF6 px6 ⊢
    walk_at "gs"
    refine i_sortedP hF6 px6 (rws_nd x.nk z.rp.nd) fun rs p H2 fp k2 ld pm pw => ?_
    refine k p rs H2 (k05.free fp) (Kp.trans k05 k2) ld ⟨pw, fun q => ?_⟩
    rw [pm.mem_iff, mem_rws]
def sp_lloose (K : PySem.W.Frag) : Sp := fun vs H Q _ => ∃ (md L N R : Addr) (rep rw : List (Int × Addr)) (n ever : Int) (liv : List Int) (nb : Int → List Int) (c : Int → List Int), vs = [.ref md] ∧ MoX K H md L N R rep rw n ever liv nb c ∧ rep.length ≤ 1000 ∧
  ∀ R0 fs H', Fr H R0 → Kp [] H H' → H' R0 = some (.lst (fs.map V.int)) → FreeOf liv (rep.map (·.1)) fs → Q (.ref R0) H'
theorem sc_law_loose : FnScope ["_law_model_here", "_law_one"] ["_law_model_here"] (defScope s_law_loose) :=
  ⟨rfl, rfl, rfl, by decide +kernel, rfl, by decide +kernel, by decide +kernel⟩
theorem ok_law_loose {P : Program} {w : World} {K : PySem.W.Frag} {mg : Str → Option Value} {base : Heap} (T : Txt K mg) :
    FnG P w K mg base 1 T.a_law_loose T.d_law_loose ["_law_model_here"] (sp_lloose K) := by
  refine okD T.F_law_loose sc_law_loose (fun vs H Q E h => ?_) (fun cdv A outer s H vs Q E hr h => ?_)
  · first
      | (obtain ⟨_, rfl, _⟩ := h; rfl)
      | (obtain ⟨_, _, rfl, _⟩ := h; rfl)
      | (obtain ⟨_, _, _, rfl, _⟩ := h; rfl)
      | (obtain ⟨_, _, _, _, rfl, _⟩ := h; rfl)
      | (obtain ⟨_, _, _, _, _, rfl, _⟩ := h; rfl)
      | (obtain ⟨_, _, _, _, _, _, rfl, _⟩ := h; rfl)
      | (obtain ⟨_, _, _, _, _, _, _, rfl, _⟩ := h; rfl)
      | (obtain ⟨_, _, _, _, _, _, _, _, rfl, _⟩ := h; rfl)
      | (obtain ⟨_, _, _, _, _, _, _, _, _, rfl, _⟩ := h; rfl)
      | (obtain ⟨_, _, _, _, _, _, _, _, _, _, rfl, _⟩ := h; rfl)
      | (obtain ⟨_, _, _, _, _, _, _, _, _, _, _, rfl, _⟩ := h; rfl)
      | (obtain ⟨_, _, _, _, _, _, _, _, _, _, _, _, rfl, _⟩ := h; rfl)
      | (obtain ⟨_, _, _, _, _, _, _, _, _, _, _, _, _, rfl, _⟩ := h; rfl)
      | (obtain ⟨_, _, _, _, _, _, _, _, _, _, _, _, _, _, rfl, _⟩ := h; rfl)
      | (obtain ⟨_, _, _, _, _, _, _, _, _, _, _, _, _, _, _, rfl, _⟩ := h; rfl)
      | (obtain ⟨_, _, _, _, _, _, _, _, _, _, _, _, _, _, _, _, rfl, _⟩ := h; rfl)
      | (obtain ⟨_, _, _, _, _, _, _, _, _, _, _, _, _, _, _, _, _, rfl, _⟩ := h; rfl)
      | (obtain ⟨_, _, _, _, _, _, _, _, _, _, _, _, _, _, _, _, _, _, rfl, _⟩ := h; rfl)
      | (obtain ⟨_, _, _, _, _, _, _, _, _, _, _, _, _, _, _, _, _, _, _, rfl, _⟩ := h; rfl)
  · obtain ⟨md, L, N, R, rep, rw, n, ever, liv, nb, cc, rfl, x, kl, k⟩ := h
    obtain ⟨n1, n2, n3, n4, n5, n6, n7, n8⟩ := x.parts
    have hm := x.hm
    refine ⟨_, (pss_one (ps_ret (pe_callB (k_sorted (K := K) rfl) (by rfl) T.n_sorted (by decide +kernel) (pa_cons (pe_lock (pe_lc (own := [("_law_one", 1)]) (g := (gName 1)) rfl sc_law_loose.nd (pi_keys (pe_dget (u1 hr.r.units) (pv 0) pe_str (fun _ _ => rfl))) (blkOk_by (own := [("_law_one", 1)]) (N := ["_law_model_here", "_law_one"]) (sc := defScope s_law_loose) (by decide +kernel)) (fun _ _ _ _ _ => (pg_name (i := 1) sc_law_loose.nd rfl (Or.inl rfl))) (fun _ _ _ _ _ => (pts_one (pt_cmpR (k_nin (K := K) rfl) (pv 1) (pe_dget (u1 hr.r.units) (pv 0) pe_str (fun _ _ => rfl)) (rfl)))) (fun _ _ _ _ _ => (pv 1)))) pa_nil)))), ?_⟩
    dsimp only [cxOf, st_1, st_2, st_3, st_4, st_5, st_6, List.length_cons, List.length_nil, List.replicate_succ, List.replicate_zero, Nat.reduceAdd, Nat.reduceSub]
    walk_at "gs"
    refine i_lockE x.hn fun od => ?_
    have hmL : (upd H N (.frz od (.dK (rep.map kA)))) md = some (.dK (mKs n ever L N R)) := by rw [upd_ne n2]; exact x.hm
    have hLL : (upd H N (.frz od (.dK (rep.map kA)))) L = some (.lst (liv.map V.int)) := by rw [upd_ne n4]; exact x.hl
    obtain ⟨HL, eL⟩ : ∃ HL, HL = upd H N (.frz od (.dK (rep.map kA))) := ⟨_, rfl⟩
    have hNL : HL N = some (.frz od (.dK (rep.map kA))) := by rw [eL]; exact upd_same
    rw [← eL] at hmL hLL ⊢
    walk_at "gs"
    refine i_keyG (o := od) hNL (fun R0 i H' => Kp [] HL H' ∧ H' R0 = some (.lst ((((rep.take i).map (·.1)).filter fun w => decide (w ∉ liv)).map V.int))) ?_ ?_ ?_ ?_
    · intro R0 fR
      exact ⟨Kp.new fR, upd_same⟩
    · rintro R0 i H' fR ⟨k1, _⟩
      exact k1.at_ _ _ hNL not_nil
    · rintro R0 i ky v H' fR hk ⟨k1, hR⟩
      obtain ⟨p, hp, e⟩ := map_get hk
      cases e
      have hl1 : SqL K H' L (liv.map V.int) := SqL.of (k1.at_ _ _ hLL not_nil)
      have hm1 := k1.at_ _ _ hmL not_nil
      have hil := (List.getElem?_eq_some_iff.mp hp).1
      have step : (((rep.take (i + 1)).map (·.1)).filter fun w => decide (w ∉ liv)) = (((rep.take i).map (·.1)).filter fun w => decide (w ∉ liv)) ++ (if p.1 ∉ liv then [p.1] else []) := by
        rw [List.take_add_one, hp, List.map_append, List.filter_append]
        congr 1
        by_cases c : p.1 ∉ liv <;> simp [c]
      show gName 1 (.int p.1) _ _ _
      walk_at "gs"
      refine i_decN (fun c => ?_) (fun c => ?_)
      · walk_at "gs"
        refine ⟨_, hR, small_sz ?_, Kp.upd k1 fR, ?_⟩
        · rw [List.length_map]
          have e1 := List.length_filter_le (fun w => decide (w ∉ liv)) ((rep.take i).map (·.1))
          rw [List.length_map, List.length_take] at e1
          omega
        · rw [step, if_pos c, List.map_append]
          exact upd_same
      · refine ⟨k1, ?_⟩
        rw [step, if_neg (fun z => z c), List.append_nil]
        exact hR
    rintro R0 H' fR ⟨k1, hR⟩
    rw [List.length_map, List.take_length] at hR
    have hN1 := k1.at_ _ _ hNL not_nil
    refine ⟨hN1, ?_⟩
    rw [eL] at k1 fR
    have fR' : Fr H R0 := by walk_at "g_fr"
    have nRd : R0 ≠ N := Ne.symm (fr_ne x.hn fR')
    have k0 : Kp [] H (upd H' N (.dK (rep.map kA))) := kp_unl x.hn (fun z => z) k1
    have hR2 : (upd H' N (.dK (rep.map kA))) R0 = some (.lst (((rep.map (·.1)).filter fun w => decide (w ∉ liv)).map V.int)) := by rw [upd_ne nRd]; exact hR
    walk_at "gs"
    refine i_sorted (SqL.of hR2) fun fs p pm ps fp => ?_
    have fp0 : Fr H p := k0.free fp
    refine k p fs _ fp0 (Kp.upd k0 fp0) upd_same ⟨strict_of pm (x.nk.filter _) ps, fun y => ?_⟩
    rw [pm.mem_iff, List.mem_filter, decide_eq_true_eq]

theorem wide_nn : ∀ {ps : List (Int × Int)}, (∀ q ∈ ps, 0 < q.1) → 0 ≤ wide ps
  | [], _ => Int.le_refl _
  | p :: ps, h => by
    have ih := wide_nn (ps := ps) fun q hq => h q (List.mem_cons_of_mem _ hq)
    have hp := h p List.mem_cons_self
    show 0 ≤ p.1 + wide ps
    omega
theorem wide_app (ps qs : List (Int × Int)) : wide (ps ++ qs) = wide ps + wide qs := by
  unfold wide
  rw [List.map_append, List.sum_append]
theorem wide_in {ps : List (Int × Int)} (h : ∀ q ∈ ps, 0 < q.1) (i : Nat) : 0 ≤ wide (ps.take i) ∧ wide (ps.take i) ≤ wide ps := by
  have a := wide_nn (ps := ps.take i) fun q hq => h q (List.mem_of_mem_take hq)
  have b := wide_nn (ps := ps.drop i) fun q hq => h q (List.mem_of_mem_drop hq)
  have e := wide_app (ps.take i) (ps.drop i)
  rw [List.take_append_drop] at e
  omega
def sp_lspot (K : PySem.W.Frag) : Sp := fun vs H Q _ => ∃ (p md L N R : Addr) (rep rw : List (Int × Addr)) (n ever : Int) (liv : List Int) (nb : Int → List Int) (c : Int → List Int), vs = [.ref p, .ref md] ∧ PotAt H p ∧ MoX K H md L N R rep rw n ever liv nb c ∧ rw.map (·.1) = liv ∧ liv.Nodup ∧ liv ≠ [] ∧ liv.length ≤ 1000 ∧ p ∉ ownM md L N R rep ∧ (∀ q ∈ rw, q.2 ≠ p) ∧ (0 ≤ n ∧ n ≤ 1000000000000000000) ∧ (∀ w ∈ liv, ((c w).length : Int) = n ∧ (rle (c w)).length ≤ 100) ∧
  ∀ v H', 0 ≤ v → v ≤ n → PotAt H' p → Kp [p] H H' → Q (.int v) H'
theorem sc_law_spot : FnScope ["_law_pot_here", "_law_model_here", "_law_spots", "_law_many", "_law_number_here"] ["_law_pot_here", "_law_model_here"] (defScope s_law_spot) :=
  ⟨rfl, rfl, rfl, by decide +kernel, rfl, by decide +kernel, by decide +kernel⟩
theorem ok_law_spot {P : Program} {w : World} {K : PySem.W.Frag} {mg : Str → Option Value} {base : Heap} (T : Txt K mg) :
    FnG P w K mg base 3 T.a_law_spot T.d_law_spot ["_law_pot_here", "_law_model_here"] (sp_lspot K) := by
  refine okD T.F_law_spot sc_law_spot (fun vs H Q E h => ?_) (fun cdv A outer s H vs Q E hr h => ?_)
  · first
      | (obtain ⟨_, rfl, _⟩ := h; rfl)
      | (obtain ⟨_, _, rfl, _⟩ := h; rfl)
      | (obtain ⟨_, _, _, rfl, _⟩ := h; rfl)
      | (obtain ⟨_, _, _, _, rfl, _⟩ := h; rfl)
      | (obtain ⟨_, _, _, _, _, rfl, _⟩ := h; rfl)
      | (obtain ⟨_, _, _, _, _, _, rfl, _⟩ := h; rfl)
      | (obtain ⟨_, _, _, _, _, _, _, rfl, _⟩ := h; rfl)
      | (obtain ⟨_, _, _, _, _, _, _, _, rfl, _⟩ := h; rfl)
      | (obtain ⟨_, _, _, _, _, _, _, _, _, rfl, _⟩ := h; rfl)
      | (obtain ⟨_, _, _, _, _, _, _, _, _, _, rfl, _⟩ := h; rfl)
      | (obtain ⟨_, _, _, _, _, _, _, _, _, _, _, rfl, _⟩ := h; rfl)
      | (obtain ⟨_, _, _, _, _, _, _, _, _, _, _, _, rfl, _⟩ := h; rfl)
      | (obtain ⟨_, _, _, _, _, _, _, _, _, _, _, _, _, rfl, _⟩ := h; rfl)
      | (obtain ⟨_, _, _, _, _, _, _, _, _, _, _, _, _, _, rfl, _⟩ := h; rfl)
      | (obtain ⟨_, _, _, _, _, _, _, _, _, _, _, _, _, _, _, rfl, _⟩ := h; rfl)
      | (obtain ⟨_, _, _, _, _, _, _, _, _, _, _, _, _, _, _, _, rfl, _⟩ := h; rfl)
      | (obtain ⟨_, _, _, _, _, _, _, _, _, _, _, _, _, _, _, _, _, rfl, _⟩ := h; rfl)
      | (obtain ⟨_, _, _, _, _, _, _, _, _, _, _, _, _, _, _, _, _, _, rfl, _⟩ := h; rfl)
      | (obtain ⟨_, _, _, _, _, _, _, _, _, _, _, _, _, _, _, _, _, _, _, rfl, _⟩ := h; rfl)
  · obtain ⟨p, md, L, N, R, rep, rw, n, ever, liv, nb, cc, rfl, hp, x, kr, nl, ne, ll, np, npr, hn, hcl, k⟩ := h
    have hm := x.hm
    have nLp : L ≠ p := fun e => np (by rw [← e]; exact ownM_L)
    have nrw : (rw.map (·.1)).Nodup := by rw [kr]; exact nl
    have l0 : 0 < liv.length := List.length_pos_iff.mpr ne
    have cl_Memory := T.cl_Memory
    have na_Memory_pairs := T.na_Memory_pairs
    have na_Memory_wide := T.na_Memory_wide
    have cl_Ties := T.cl_Ties
    have na_Ties_near := T.na_Ties_near
    have na_Ties_own_ever := T.na_Ties_own_ever
    have na_Ties_own_living := T.na_Ties_own_living
    have cl_Store := T.cl_Store
    have na_Store_kept_by_world := T.na_Store_kept_by_world
    have na_Store_own_size := T.na_Store_own_size
    have na_Store_own_ties := T.na_Store_own_ties
    refine ⟨_, (pss_cons (ps_set (i := 2) sc_law_spot.nd rfl (Or.inl rfl) (pe_lst (pa_cons pe_int pa_nil)))
      (pss_cons (ps_for (passes_of rfl) rfl (k_plist (K := K) rfl (pe_dget (u1 hr.r.units) (pe_dget (u1 hr.r.units) (pv 1) pe_str (fun _ _ => rfl)) (d1 (ok_law_among T) (hr.mono (by decide)) (by rfl) T.m_law_among T.F_law_among.kp T.b_law_among passL (pa_cons (pv 0) (pa_cons (pe_dget (u1 hr.r.units) (pv 1) pe_str (fun _ _ => rfl)) pa_nil))) (fun _ _ => rfl))) (k_gtup (K := K) 2 rfl rfl (pgs_cons (pg_name (i := 3) sc_law_spot.nd rfl (Or.inl rfl)) (pgs_cons (pg_name (i := 4) sc_law_spot.nd rfl (Or.inl rfl)) pgs_nil)))
      (pss_one (ps_expr (pe_bm PySem.F.plainAttrs_list PySem.F.slot_list_append PySem.F.type_list_append mt_append (pv 2) (pa_cons (pe_op (k_add (K := K) rfl) (pe_ix (k_ix (K := K) rfl) (pv 2) (pe_un un_neg pe_int) (fun _ _ => rfl)) (pv 3)) pa_nil)))))
      (pss_one (ps_ret (pe_ix (k_ix (K := K) rfl) (pe_lst (pa_cons (d1 (ok_law_among T) (hr.mono (by decide)) (by rfl) T.m_law_among T.F_law_among.kp T.b_law_among passL (pa_cons (pv 0) (pa_cons (pv 2) pa_nil))) (pa_cons (d1 (ok_law_take T) (hr.mono (by decide)) (by rfl) T.m_law_take T.F_law_take.kp T.b_law_take passL (pa_cons (pv 0) (pa_cons (pe_op (k_add (K := K) rfl) (pe_dget (u1 hr.r.units) (pv 1) pe_str (fun _ _ => rfl)) pe_int) pa_nil))) pa_nil))) (d1 (ok_law_take T) (hr.mono (by decide)) (by rfl) T.m_law_take T.F_law_take.kp T.b_law_take passL (pa_cons (pv 0) (pa_cons pe_int pa_nil))) (fun _ _ => rfl)))))), ?_⟩
    dsimp only [cxOf, st_1, st_2, st_3, st_4, st_5, st_6, List.length_cons, List.length_nil, List.replicate_succ, List.replicate_zero, Nat.reduceAdd, Nat.reduceSub]
    walk_at "gs"
    refine i_new fun S fS => ?_
    have kS : Kp [] H (upd H S (.lst [V.int 0])) := Kp.new fS
    have hS : (upd H S (.lst [V.int 0])) S = some (.lst [V.int 0]) := upd_same
    have nSp : S ≠ p := Ne.symm (hp.ne fS)
    have hp1 := hp.kp kS not_nil
    have x1 := x.kp0 kS
    obtain ⟨H1, e1⟩ : ∃ H1, H1 = upd H S (.lst [V.int 0]) := ⟨_, rfl⟩
    rw [← e1] at kS hS hp1 x1 ⊢
    have hm1 := x1.hm
    walk_at "gs"
    refine ⟨p, L, liv.map V.int, rfl, hp1, SqL.of x1.hl, nLp, by rw [List.length_map]; exact l0, by rw [List.length_map]; exact ll, fun v H2 hv hp2 k2 => ?_⟩
    obtain ⟨w, hw, rfl⟩ := List.mem_map.mp hv
    have x2 : MoX K H2 md L N R rep rw n ever liv nb cc := x1.kp k2 (fun b hb e => np (by rw [← List.mem_singleton.mp e]; exact hb)) fun q hq e => npr q hq (List.mem_singleton.mp e)
    have hS2 := k2.at_ _ _ hS (not_one nSp)
    obtain ⟨r, hrw, lr, _⟩ := x2.row (w := w) (by rw [kr]; exact hw)
    obtain ⟨rv, hrv, ar⟩ := lr
    obtain ⟨hcn, hcr⟩ := hcl w hw
    have lrv := dpa_len ar
    rw [List.length_map] at lrv
    have wr := wide_rle (cc w)
    walk_at "gs"
    refine i_dg x2.hr (val_rep nrw hrw) ?_
    have nSr : r ≠ S := by
      have t := x.rtr hrw
      exact fr_tr t fS
    refine i_each (SqL.of hrv) (fun i σ H' => ∃ (o3 o4 : Option V) (f : List Int), σ = [some (.ref p), some (.ref md), some (.ref S), o3, o4] ∧ Kp [S] H2 H' ∧ f.length = i ∧ H' S = some (.lst (f.map V.int ++ [V.int (wide ((rle (cc w)).take i))])) ∧ ∀ v ∈ f, 0 ≤ v ∧ v ≤ n) ?_ ?_ ?_ ?_
    · exact ⟨_, _, [], rfl, Kp.refl, rfl, hS2, fun _ h => nomatch h⟩
    · rintro i σ H' _ ⟨_, _, _, _, k3, _⟩
      exact SqL.of (k3.at_ _ _ hrv (not_one nSr))
    · rintro i y σ H' hy ⟨o3, o4, f, rfl, k3, lf, hS3, bf⟩
      obtain ⟨d, hd, hdp⟩ := dpa_getV ar hy
      obtain ⟨q, hq, rfl⟩ := map_get hd
      obtain ⟨t, rfl, hT⟩ := dp_pair (dp_imm k3 _ _ rfl hdp)
      have hil := (List.getElem?_eq_some_iff.mp hq).1
      obtain ⟨b1, b2⟩ := wide_in (rle_pos (cc w)) i
      walk_at "gs"
      refine i_app hS3 (small_sz (by rw [List.length_append, List.length_map, List.length_singleton]; omega)) ?_
      walk_at "gs"
      refine ⟨_, _, f ++ [wide ((rle (cc w)).take i)], rfl, Kp.trans k3 (kp_set hS3 (fun z => z)), by rw [List.length_append, List.length_singleton, lf], ?_, fun v hv => ?_⟩
      · rw [wide_take hq, List.map_append]
        exact upd_same
      · rcases List.mem_append.mp hv with h | h
        · exact bf v h
        · rw [List.mem_singleton.mp h]
          omega
    rintro σ H3 ⟨o3, o4, f, rfl, k3, lf, hS3, bf⟩
    rw [List.take_of_length_le (by omega), wr, hcn] at hS3
    have hS3 : H3 S = some (.lst ((f ++ [n]).map V.int)) := by rw [hS3, List.map_append]; rfl
    have hp3 := hp2.kp k3 (not_one (Ne.symm nSp))
    have k03 : Kp [p] H H3 := by
      have z : Kp [S, p] H H3 := Kp.trans kS.wide (Kp.trans (k2.mono fun b hb => by simp only [List.mem_singleton] at hb; simp [hb]) (k3.mono fun b hb => by simp only [List.mem_singleton] at hb; simp [hb]))
      exact z.drop fS
    have x3 : MoX K H3 md L N R rep rw n ever liv nb cc := x.kp k03 (fun b hb e => np (by rw [← List.mem_singleton.mp e]; exact hb)) fun q hq e => npr q hq (List.mem_singleton.mp e)
    walk_at "gs"
    refine ⟨p, S, (f ++ [n]).map V.int, rfl, hp3, SqL.of hS3, nSp, by rw [List.length_map, List.length_append]; simp, by rw [List.length_map, List.length_append, List.length_singleton]; omega, fun v H4 hv hp4 k4 => ?_⟩
    obtain ⟨v, hv', rfl⟩ := List.mem_map.mp hv
    have bv : 0 ≤ v ∧ v ≤ n := by
      rcases List.mem_append.mp hv' with h | h
      · exact bf v h
      · rw [List.mem_singleton.mp h]
        omega
    have x4 : MoX K H4 md L N R rep rw n ever liv nb cc := x3.kp k4 (fun b hb e => np (by rw [← List.mem_singleton.mp e]; exact hb)) fun q hq e => npr q hq (List.mem_singleton.mp e)
    have hm4 := x4.hm
    walk_at "gs"
    refine use_take hp4 (by omega) (by omega) (fun u H5 u0 u1 hp5 k5 => ?_)
    walk_at "gs"
    refine i_new fun W fW => ?_
    have kW := Kp.new (ws := []) (o := HO.lst [V.int v, V.int u]) fW
    have hW := fresh_at (o := HO.lst [V.int v, V.int u]) fW
    have hp6 := hp5.kp kW not_nil
    have nWp : W ≠ p := Ne.symm (hp5.ne fW)
    obtain ⟨H6, e6⟩ : ∃ H6, H6 = upd H5 W (.lst [V.int v, V.int u]) := ⟨_, rfl⟩
    rw [← e6] at kW hW hp6 ⊢
    walk_at "gs"
    refine use_take hp6 (by decide) (by decide) (fun s H7 s0 s1 hp7 k7 => ?_)
    have hW7 := k7.at_ _ _ hW (not_one nWp)
    have k07 : Kp [p] H H7 := Kp.trans k03 (Kp.trans k4 (Kp.trans k5 (Kp.trans kW.wide k7)))
    have c : s = 0 ∨ s = 1 := by omega
    rcases c with rfl | rfl
    · refine i_ixL (SqL.of hW7) (v := .int v) rfl ?_
      exact k _ H7 bv.1 bv.2 hp7 k07
    · refine i_ixL (SqL.of hW7) (v := .int u) rfl ?_
      exact k _ H7 u0 (by omega) hp7 k07

theorem k_glst {X : Cx} {K : PySem.W.Frag} {es : List Expr} {k : Nat} {t : TGs} {pos : Pos} (n : Nat) (h : X.K = K) (hc : X.calm = true) (hp : PGs X es t)
    (hn : (assignEach es X.env).length = n := by rfl)
    (hst : (assignEach es X.env).findIdx? (·.1) = none := by rfl) : PG X (.Tuple es k pos) (L2.gLst K n t) := h ▸ L2.pg_lst hc hp hn hst
theorem i_gLst {K : PySem.W.Frag} {σ : L2.St} {H : Hp} {p : Addr} {xs : List V} {n : Nat} {t : TGs} {S : L2.St → Hp → Prop} (hs : SqL K H p xs) (hl : xs.length = n) (h : t xs σ H S) :
    L2.gLst K n t (.ref p) σ H S := ⟨p, xs, rfl, hs, hl, h⟩
/-- what a store and the law's model of it are at once -/
structure Wd where
  own : List Addr
  L : Addr
  N : Addr
  R : Addr
  rep : List (Int × Addr)
  rw : List (Int × Addr)
  ever : Int
  liv : List Int
  ks : List Int
  nb : Int → List Int
  nbm : Int → List Int
  c : Int → List Int
  D : Int → Int → Int
structure Both (K : PySem.W.Frag) (CM CT CS : Addr) (H : Hp) (st md p : Addr) (n : Int) (w : Wd) : Prop where
  s : StoreAt K CM CT CS H st w.own n w.ever w.liv w.ks w.nb w.c
  m : MoX K H md w.L w.N w.R w.rep w.rw n w.ever w.liv w.nbm w.c
  kr : w.rw.map (·.1) = w.liv
  zs : Tr3 w.D w.ever w.liv w.ks w.nb
  zm : Tr3 w.D w.ever w.liv (w.rep.map (·.1)) w.nbm
  ap : ∀ b ∈ w.own, b ∉ ownM md w.L w.N w.R w.rep
  ar : ∀ q ∈ w.rw, q.2 ∉ w.own
  cl : ∀ u ∈ w.liv, ((w.c u).length : Int) = n ∧ (rle (w.c u)).length ≤ 24 ∧ ∀ v ∈ w.c u, okM v
  n1 : 1 ≤ n ∧ n ≤ 1000000000000000000
  ev : w.ever ≤ 100
  l7 : w.liv.length ≤ 100
  pot : PotAt H p
  ps : p ∉ w.own
  pm : p ∉ ownM md w.L w.N w.R w.rep
  pr : ∀ q ∈ w.rw, q.2 ≠ p
section
variable {K : PySem.W.Frag} {CM CT CS : Addr} {H H' : Hp} {st md p : Addr} {n : Int} {w : Wd} {ws : List Addr}
theorem Both.kp (B : Both K CM CT CS H st md p n w) (k : Kp ws H H') (hp : PotAt H' p) (a : ∀ b ∈ ws, b ∉ w.own ∧ b ∉ ownM md w.L w.N w.R w.rep ∧ ∀ q ∈ w.rw, q.2 ≠ b) : Both K CM CT CS H' st md p n w :=
  ⟨B.s.kp k fun b hb z => (a b z).1 hb, B.m.kp k (fun b hb z => (a b z).2.1 hb) fun q hq z => (a _ z).2.2 q hq rfl, B.kr, B.zs, B.zm, B.ap, B.ar, B.cl, B.n1, B.ev, B.l7, hp, B.ps, B.pm, B.pr⟩
theorem Both.kpp (B : Both K CM CT CS H st md p n w) (k : Kp [p] H H') (hp : PotAt H' p) : Both K CM CT CS H' st md p n w :=
  B.kp k hp fun b hb => by
    rw [List.mem_singleton.mp hb]
    exact ⟨B.ps, B.pm, B.pr⟩
theorem Both.kp0 (B : Both K CM CT CS H st md p n w) (k : Kp [] H H') : Both K CM CT CS H' st md p n w := B.kp k (B.pot.kp k not_nil) fun _ h => nomatch h
theorem Both.ins (B : Both K CM CT CS H st md p n w) : ∃ dx d t, H st = some (.ins CS dx (sfs n d t)) := by
  obtain ⟨d, t, dx, ps, es, x, _⟩ := B.s
  exact ⟨_, _, _, x.hs⟩
theorem Both.pos (B : Both K CM CT CS H st md p n w) {u : Int} (hu : u ∈ w.liv) : 0 ≤ u := (B.zs.hU u (B.zs.sub u hu)).1
theorem Both.len (B : Both K CM CT CS H st md p n w) {u : Int} (hu : u ∈ w.liv) : 1 ≤ (w.c u).length ∧ (w.c u).length ≤ 1000000000000000000 := by
  obtain ⟨h, _⟩ := B.cl u hu
  obtain ⟨a, b⟩ := B.n1
  omega
theorem Both.few (B : Both K CM CT CS H st md p n w) {u : Int} (hu : u ∈ w.liv) : (rle (w.c u)).length ≤ 10000 := by
  obtain ⟨_, h, _⟩ := B.cl u hu
  omega
theorem Both.row (B : Both K CM CT CS H st md p n w) {u : Int} (hu : u ∈ w.liv) : ∃ r, (u, r) ∈ w.rw ∧ LD K H r ((rle (w.c u)).map d2) ∧ valV (w.rw.map kA) (.inl u) = some (.ref r) := by
  obtain ⟨r, h1, h2, _⟩ := B.m.row (w := u) (by rw [B.kr]; exact hu)
  exact ⟨r, h1, h2, val_rep (by rw [B.kr]; exact B.zs.nl) h1⟩
theorem Both.spot (B : Both K CM CT CS H st md p n w) {Q : VK} {E : XK} (ne : w.liv ≠ []) (k : ∀ v H', 0 ≤ v → v ≤ n → PotAt H' p → Kp [p] H H' → Both K CM CT CS H' st md p n w → Q (.int v) H') : sp_lspot K [.ref p, .ref md] H Q E :=
  ⟨p, md, w.L, w.N, w.R, w.rep, w.rw, n, w.ever, w.liv, w.nbm, w.c, rfl, B.pot, B.m, B.kr, B.zs.nl, ne, by have := B.l7; omega, B.pm, B.pr, ⟨by have := B.n1; omega, B.n1.2⟩, fun u hu => by
    obtain ⟨h1, h2, _⟩ := B.cl u hu
    exact ⟨h1, by omega⟩, fun v H' a b hp k1 => k v H' a b hp k1 (B.kpp k1 hp)⟩
theorem Both.among (B : Both K CM CT CS H st md p n w) {Q : VK} {E : XK} (ne : w.liv ≠ []) (k : ∀ u H', u ∈ w.liv → PotAt H' p → Kp [p] H H' → Both K CM CT CS H' st md p n w → Q (.int u) H') : sp_among K [.ref p, .ref w.L] H Q E :=
  ⟨p, w.L, w.liv.map V.int, rfl, B.pot, SqL.of B.m.hl, fun e => B.pm (by rw [← e]; exact ownM_L), by rw [List.length_map]; exact List.length_pos_iff.mpr ne, by rw [List.length_map]; have := B.l7; omega, fun v H' hv hp k1 => by
    obtain ⟨u, hu, rfl⟩ := List.mem_map.mp hv
    exact k u H' hu hp k1 (B.kpp k1 hp)⟩
theorem Both.fr (B : Both K CM CT CS H st md p n w) {a : Addr} (f : Fr H a) : a ∉ w.own ∧ a ∉ ownM md w.L w.N w.R w.rep ∧ a ≠ p ∧ ∀ q ∈ w.rw, q.2 ≠ a :=
  ⟨B.s.fr f, B.m.fr f, Ne.symm (B.pot.ne f), fun q hq => fr_tr (B.m.rtr hq) f⟩
/-- the store has another memory of u, and so has the model -/
theorem Both.write (B : Both K CM CT CS H st md p n w) {u : Int} {cs : List Int} {own' : List Addr} {r : Addr} (k : Kp w.own H H') (g : Grow H w.own own') (S : StoreAt K CM CT CS H' st own' n w.ever w.liv w.ks w.nb (setC w.c u cs))
    (lr : LD K H r ((rle cs).map d2)) (nr : r ∉ w.own ∧ r ∉ ownM md w.L w.N w.R w.rep ∧ r ≠ p) (hu : u ∈ w.liv) (hc : (cs.length : Int) = n ∧ (rle cs).length ≤ 24 ∧ ∀ v ∈ cs, okM v) :
    H' md = some (.dK (mKs n w.ever w.L w.N w.R)) ∧ H' w.R = some (.dK (w.rw.map kA)) ∧ Both K CM CT CS (upd H' w.R (.dK ((w.rw.map (setR u r)).map kA))) st md p n { w with own := own', rw := w.rw.map (setR u r), c := setC w.c u cs } := by
  have m1 := B.m.kp k (fun b hb z => B.ap b z hb) B.ar
  have lr1 := lr.kp k (imms_d2 _) nr.1
  obtain ⟨k2, m2⟩ := m1.rowPut (w := u) lr1 nr.2.1
  have nin : ∀ {b : Addr}, Tr H b → b ∉ w.own → b ∉ own' := fun {b} t h => g.nin t h
  have tm : ∀ b ∈ ownM md w.L w.N w.R w.rep, Tr H b := fun b hb => by
    obtain ⟨x, e⟩ := B.m.known b hb
    exact ⟨x, e⟩
  have ap' : ∀ b ∈ own', b ∉ ownM md w.L w.N w.R w.rep := fun b hb z => nin (tm b z) (fun h => B.ap b h z) hb
  have pot1 := B.pot.kp k B.ps
  have npR : p ≠ w.R := fun e => B.pm (by rw [e]; exact ownM_R)
  refine ⟨m1.hm, m1.hr, S.kp k2 fun b hb z => ap' b hb (by rw [List.mem_singleton.mp z]; exact ownM_R), m2, ?_, B.zs, B.zm, ap', fun q hq => ?_, fun v hv => ?_, B.n1, B.ev, B.l7, pot1.kp k2 (not_one npR), nin (tr_pot B.pot) B.ps, B.pm, fun q hq => ?_⟩
  · show (w.rw.map (setR u r)).map (·.1) = w.liv
    rw [List.map_map, ← B.kr]
    exact List.map_congr_left fun q _ => setR_1
  · obtain ⟨q', hq', rfl⟩ := List.mem_map.mp hq
    rcases setR_2 (w := u) (r := r) (p := q') with ⟨e, _⟩ | ⟨e, _⟩
    · rw [e]
      exact nin (tr_ld lr) nr.1
    · rw [e]
      exact nin (B.m.rtr hq') (B.ar q' hq')
  · show (((setC w.c u cs) v).length : Int) = n ∧ _
    unfold setC
    by_cases c : v = u
    · rw [if_pos c]
      refine ⟨hc.1, ?_⟩
      simp only [if_pos c]
      exact hc.2
    · rw [if_neg c]
      refine ⟨(B.cl v hv).1, ?_⟩
      simp only [if_neg c]
      exact (B.cl v hv).2
  · obtain ⟨q', hq', rfl⟩ := List.mem_map.mp hq
    rcases setR_2 (w := u) (r := r) (p := q') with ⟨e, _⟩ | ⟨e, _⟩
    · rw [e]
      exact nr.2.2
    · rw [e]
      exact B.pr q' hq'
end
theorem laid_mem {cs xs : List Int} {b e : Nat} {v : Int} (h : v ∈ laid cs b xs e) : v ∈ cs ∨ v ∈ xs := by
  unfold laid at h
  rcases List.mem_append.mp h with h | h
  · rcases List.mem_append.mp h with h | h
    · exact .inl (List.mem_of_mem_take h)
    · exact .inr h
  · exact .inl (List.mem_of_mem_drop h)

def sp_lwritten (K : PySem.W.Frag) (CM CT CS : Addr) : Sp := fun vs H Q _ => ∃ (st md p : Addr) (n : Int) (w : Wd), vs = [.ref p, .ref st, .ref md] ∧ Both K CM CT CS H st md p n w ∧ w.liv ≠ [] ∧ ∀ v w' H', Fx H H' → Both K CM CT CS H' st md p n w' → Q v H'
theorem sc_law_written : FnScope ["_law_pot_here", "_law_store", "_law_model_here", "_law_being", "_law_way", "_law_begin", "_law_stop", "_law_row", "_law_number_here", "_law_giver", "_law_to", "_law_later"] ["_law_pot_here", "_law_store", "_law_model_here"] (defScope s_law_written) :=
  ⟨rfl, rfl, rfl, by decide +kernel, rfl, by decide +kernel, by decide +kernel⟩
theorem ok_law_written {P : Program} {w : World} {K : PySem.W.Frag} {mg : Str → Option Value} {base : Heap} (T : Txt K mg) :
    FnG P w K mg base 10 T.a_law_written T.d_law_written ["_law_pot_here", "_law_store", "_law_model_here"] (sp_lwritten K T.c_Memory T.c_Ties T.c_Store) := by
  refine okD T.F_law_written sc_law_written (fun vs H Q E h => ?_) (fun cdv A outer s H vs Q E hr h => ?_)
  · first
      | (obtain ⟨_, rfl, _⟩ := h; rfl)
      | (obtain ⟨_, _, rfl, _⟩ := h; rfl)
      | (obtain ⟨_, _, _, rfl, _⟩ := h; rfl)
      | (obtain ⟨_, _, _, _, rfl, _⟩ := h; rfl)
      | (obtain ⟨_, _, _, _, _, rfl, _⟩ := h; rfl)
      | (obtain ⟨_, _, _, _, _, _, rfl, _⟩ := h; rfl)
      | (obtain ⟨_, _, _, _, _, _, _, rfl, _⟩ := h; rfl)
      | (obtain ⟨_, _, _, _, _, _, _, _, rfl, _⟩ := h; rfl)
      | (obtain ⟨_, _, _, _, _, _, _, _, _, rfl, _⟩ := h; rfl)
      | (obtain ⟨_, _, _, _, _, _, _, _, _, _, rfl, _⟩ := h; rfl)
      | (obtain ⟨_, _, _, _, _, _, _, _, _, _, _, rfl, _⟩ := h; rfl)
      | (obtain ⟨_, _, _, _, _, _, _, _, _, _, _, _, rfl, _⟩ := h; rfl)
      | (obtain ⟨_, _, _, _, _, _, _, _, _, _, _, _, _, rfl, _⟩ := h; rfl)
      | (obtain ⟨_, _, _, _, _, _, _, _, _, _, _, _, _, _, rfl, _⟩ := h; rfl)
      | (obtain ⟨_, _, _, _, _, _, _, _, _, _, _, _, _, _, _, rfl, _⟩ := h; rfl)
      | (obtain ⟨_, _, _, _, _, _, _, _, _, _, _, _, _, _, _, _, rfl, _⟩ := h; rfl)
      | (obtain ⟨_, _, _, _, _, _, _, _, _, _, _, _, _, _, _, _, _, rfl, _⟩ := h; rfl)
      | (obtain ⟨_, _, _, _, _, _, _, _, _, _, _, _, _, _, _, _, _, _, rfl, _⟩ := h; rfl)
      | (obtain ⟨_, _, _, _, _, _, _, _, _, _, _, _, _, _, _, _, _, _, _, rfl, _⟩ := h; rfl)
  · obtain ⟨st, md, p, n, w, rfl, B, ne, k⟩ := h
    have hm := B.m.hm
    have cl_Memory := T.cl_Memory
    have na_Memory_pairs := T.na_Memory_pairs
    have na_Memory_wide := T.na_Memory_wide
    have cl_Ties := T.cl_Ties
    have na_Ties_near := T.na_Ties_near
    have na_Ties_own_ever := T.na_Ties_own_ever
    have na_Ties_own_living := T.na_Ties_own_living
    have cl_Store := T.cl_Store
    have na_Store_kept_by_world := T.na_Store_kept_by_world
    have na_Store_own_size := T.na_Store_own_size
    have na_Store_own_ties := T.na_Store_own_ties
    refine ⟨_, (pss_cons (ps_par (i := 3) (j := 4) (by rfl) sc_law_written.nd rfl rfl (by decide) rfl rfl (pa_cons (d1 (ok_law_among T) (hr.mono (by decide)) (by rfl) T.m_law_among T.F_law_among.kp T.b_law_among passL (pa_cons (pv 0) (pa_cons (pe_dget (u1 hr.r.units) (pv 2) pe_str (fun _ _ => rfl)) pa_nil))) (pa_cons (d1 (ok_law_take T) (hr.mono (by decide)) (by rfl) T.m_law_take T.F_law_take.kp T.b_law_take passL (pa_cons (pv 0) (pa_cons pe_int pa_nil))) pa_nil)) (by rfl))
      (pss_cons (ps_asg (pe_callB (k_sorted (K := K) rfl) (by rfl) T.n_sorted (by decide +kernel) (pa_cons (pe_lst (pa_cons (d1 (ok_law_spot T) (hr.mono (by decide)) (by rfl) T.m_law_spot T.F_law_spot.kp T.b_law_spot passL (pa_cons (pv 0) (pa_cons (pv 2) pa_nil))) (pa_cons (d1 (ok_law_spot T) (hr.mono (by decide)) (by rfl) T.m_law_spot T.F_law_spot.kp T.b_law_spot passL (pa_cons (pv 0) (pa_cons (pv 2) pa_nil))) pa_nil))) pa_nil)) (k_glst (K := K) 2 rfl rfl (pgs_cons (pg_name (i := 5) sc_law_written.nd rfl (Or.inl rfl)) (pgs_cons (pg_name (i := 6) sc_law_written.nd rfl (Or.inl rfl)) pgs_nil))))
      (pss_cons (ps_par (i := 7) (j := 8) (by rfl) sc_law_written.nd rfl rfl (by decide) rfl rfl (pa_cons (pe_dget (u1 hr.r.units) (pe_dget (u1 hr.r.units) (pv 2) pe_str (fun _ _ => rfl)) (pv 3) (fun _ _ => rfl)) (pa_cons (d1 (ok_law_number T) (hr.mono (by decide)) (by rfl) T.m_law_number T.F_law_number.kp T.b_law_number passL (pa_cons (pv 0) pa_nil)) pa_nil)) (by rfl))
      (pss_cons (ps_set (i := 9) sc_law_written.nd rfl (Or.inl rfl) (pe_ix (k_ix (K := K) rfl) (pe_lst (pa_cons (pv 3) (pa_cons (pv 3) (pa_cons (pv 3) (pa_cons (d1 (ok_law_among T) (hr.mono (by decide)) (by rfl) T.m_law_among T.F_law_among.kp T.b_law_among passL (pa_cons (pv 0) (pa_cons (pe_dget (u1 hr.r.units) (pv 2) pe_str (fun _ _ => rfl)) pa_nil))) pa_nil))))) (pv 4) (fun _ _ => rfl)))
      (pss_cons (ps_set (i := 10) sc_law_written.nd rfl (Or.inl rfl) (pe_callB (c_min2 rfl) (by rfl) T.n_min (by decide +kernel) (pa_cons (d1 (ok_law_spot T) (hr.mono (by decide)) (by rfl) T.m_law_spot T.F_law_spot.kp T.b_law_spot passL (pa_cons (pv 0) (pa_cons (pv 2) pa_nil))) (pa_cons (pe_op (k_add (K := K) rfl) (pe_op op_sub (pe_dget (u1 hr.r.units) (pv 2) pe_str (fun _ _ => rfl)) (pv 6)) (pv 5)) pa_nil))))
      (pss_cons (ps_set (i := 11) sc_law_written.nd rfl (Or.inl rfl) (d1 (ok_law_with T) (hr.mono (by decide)) (by rfl) T.m_law_with T.F_law_with.kp T.b_law_with passL (pa_cons (pv 7) (pa_cons (pv 10) (pa_cons (d1 (ok_law_part T) (hr.mono (by decide)) (by rfl) T.m_law_part T.F_law_part.kp T.b_law_part passL (pa_cons (pe_dget (u1 hr.r.units) (pe_dget (u1 hr.r.units) (pv 2) pe_str (fun _ _ => rfl)) (pv 9) (fun _ _ => rfl)) (pa_cons (pv 5) (pa_cons (pv 6) pa_nil)))) pa_nil)))))
      (pss_cons (ps_if (pt_cmpR (k_eq (K := K) rfl hr.r.units) (pv 4) pe_int (nomark _)) (pss_cons (ps_set (i := 5) sc_law_written.nd rfl (Or.inl rfl) (pe_callB (c_min2 rfl) (by rfl) T.n_min (by decide +kernel) (pa_cons (pv 5) (pa_cons (pe_op op_sub (pe_dget (u1 hr.r.units) (pv 2) pe_str (fun _ _ => rfl)) pe_int) pa_nil))))
      (pss_one (ps_set (i := 11) sc_law_written.nd rfl (Or.inl rfl) (d1 (ok_law_with T) (hr.mono (by decide)) (by rfl) T.m_law_with T.F_law_with.kp T.b_law_with passL (pa_cons (pv 7) (pa_cons (pv 5) (pa_cons (pe_lst (pa_cons (pe_tup (pa_cons pe_int (pa_cons (pv 8) pa_nil))) pa_nil)) pa_nil))))))) pss_nil)
      (pss_cons (ps_if (pt_cmpR (k_eq (K := K) rfl hr.r.units) (pv 4) pe_int (nomark _)) (pss_one (ps_set (i := 11) sc_law_written.nd rfl (Or.inl rfl) (d1 (ok_law_with T) (hr.mono (by decide)) (by rfl) T.m_law_with T.F_law_with.kp T.b_law_with passL (pa_cons (pv 7) (pa_cons (pv 5) (pa_cons (pe_ifExp (pt_cmpR op_lt (pv 5) (pv 6) (nomark _)) (pe_lst (pa_cons (pe_tup (pa_cons (pe_op op_sub (pv 6) (pv 5)) (pa_cons (pv 8) pa_nil))) pa_nil)) (pe_lst pa_nil)) pa_nil)))))) pss_nil)
      (pss_cons (ps_if (pt_cmpR op_gt (pe_callB (k_len (K := K) rfl) (by rfl) T.n_len (by decide +kernel) (pa_cons (pv 11) pa_nil)) pe_int (nomark _)) (pss_one (ps_ret (pv 3))) pss_nil)
      (pss_cons (ps_if (pt_cmpR (k_eq (K := K) rfl hr.r.units) (pv 4) pe_int (nomark _)) (pss_one (ps_expr (dm T.cl_Store T.me_Store_put (ok_Store_put T) (hr.mono (by decide)) T.b_Store_put passL (pv 1) (pa_cons (pv 3) (pa_cons (pv 5) (pa_cons (pv 8) pa_nil)))))) (pss_one (ps_if (pt_cmpR (k_eq (K := K) rfl hr.r.units) (pv 4) pe_int (nomark _)) (pss_one (ps_expr (dm T.cl_Store T.me_Store_fill (ok_Store_fill T) (hr.mono (by decide)) T.b_Store_fill passL (pv 1) (pa_cons (pv 3) (pa_cons (pv 5) (pa_cons (pv 6) (pa_cons (pv 8) pa_nil))))))) (pss_one (ps_if (pt_cmpR (k_eq (K := K) rfl hr.r.units) (pv 4) pe_int (nomark _)) (pss_one (ps_expr (dm T.cl_Store T.me_Store_bring (ok_Store_bring T) (hr.mono (by decide)) T.b_Store_bring passL (pv 1) (pa_cons (pv 3) (pa_cons (pv 5) (pa_cons (pv 6) (pa_cons (pv 10) pa_nil))))))) (pss_one (ps_expr (km T.cl_Store T.me_Store_bring (ok_Store_bring T) (hr.mono (by decide)) T.kb_Store_bring_5_source passL (pv 1) (pa_cons (pv 3) (pa_cons (pv 5) (pa_cons (pv 6) (pa_cons (pv 10) pa_nil)))) (pk_cons (pv 9) pk_nil)))))))))
      (pss_cons (ps_asg (pv 11) (pg_sub (pe_dget (u1 hr.r.units) (pv 2) pe_str (fun _ _ => rfl)) (pv 3) (set_dict (u1 hr.r.units))))
      (pss_one (ps_ret (pv 3)))))))))))))), ?_⟩
    dsimp only [cxOf, st_1, st_2, st_3, st_4, st_5, st_6, List.length_cons, List.length_nil, List.replicate_succ, List.replicate_zero, Nat.reduceAdd, Nat.reduceSub]
    walk_at "gs"
    refine B.among ne (fun u H1 hu hp1 k1 B1 => ?_)
    walk_at "gs"
    refine use_take hp1 (by decide) (by decide) (fun way H2 y0 y1 hp2 k2 => ?_)
    have B2 := B1.kpp k2 hp2
    walk_at "gs"
    refine B2.spot ne (fun a H3 a0 a1 hp3 k3 B3 => ?_)
    walk_at "gs"
    refine B3.spot ne (fun b H4 b0 b1 hp4 k4 B4 => ?_)
    walk_at "gs"
    refine i_new fun l1 fl1 => ?_
    walk_at "gs"
    refine i_sorted (ns := [a, b]) (SqL.of upd_same) fun ns l2 pm pw fl2 => ?_
    obtain ⟨x, y, rfl⟩ : ∃ x y, ns = [x, y] := by
      have := pm.length_eq
      match ns, this with
      | [x, y], _ => exact ⟨x, y, rfl⟩
    have xy : x ≤ y := by
      rw [List.pairwise_cons] at pw
      exact pw.1 y (List.mem_singleton.mpr rfl)
    have hx : 0 ≤ x := by
      have := pm.mem_iff.mp (show x ∈ [x, y] from List.mem_cons_self)
      simp only [List.mem_cons, List.not_mem_nil, or_false] at this
      omega
    have hy : y ≤ n := by
      have := pm.mem_iff.mp (show y ∈ [x, y] from List.mem_cons_of_mem _ List.mem_cons_self)
      simp only [List.mem_cons, List.not_mem_nil, or_false] at this
      omega
    have k5 : Kp [] H4 (upd (upd H4 l1 (.lst [V.int a, V.int b])) l2 (.lst ([x, y].map V.int))) := Kp.trans (Kp.new fl1) (Kp.new fl2)
    have B5 := B4.kp0 k5
    walk_at "gs"
    refine i_gLst (xs := [V.int x, V.int y]) (SqL.of upd_same) rfl ?_
    obtain ⟨H5, e5⟩ : ∃ H5, H5 = upd (upd H4 l1 (.lst [V.int a, V.int b])) l2 (.lst ([x, y].map V.int)) := ⟨_, rfl⟩
    rw [← e5] at k5 B5 ⊢
    have f5 : Fx H H5 := fx_kp k5 (fx_kp k4 (fx_kp k3 (fx_kp k2 (fx_kp k1 fx_refl))))
    have hm5 := B5.m.hm
    obtain ⟨r, hrw, _, hrv⟩ := B5.row hu
    walk_at "gs"
    refine i_dg B5.m.hr hrv ?_
    walk_at "gs"
    refine ⟨p, rfl, B5.pot, fun v H6 okv hp6 k6 => ?_⟩
    have B6 := B5.kpp k6 hp6
    have hm6 := B6.m.hm
    walk_at "gs"
    refine B6.among ne (fun g H7 hg hp7 k7 B7 => ?_)
    walk_at "gs"
    refine i_new fun l3 fl3 => ?_
    obtain ⟨gv, hgv, hat, hgu⟩ : ∃ gv, gv ∈ w.liv ∧ atI [V.int u, V.int u, V.int u, V.int g] way = some (.int gv) ∧ (way ≠ 3 → gv = u) := by
      have c : way = 0 ∨ way = 1 ∨ way = 2 ∨ way = 3 := by omega
      rcases c with rfl | rfl | rfl | rfl
      · exact ⟨u, hu, rfl, fun _ => rfl⟩
      · exact ⟨u, hu, rfl, fun _ => rfl⟩
      · exact ⟨u, hu, rfl, fun _ => rfl⟩
      · exact ⟨g, hg, rfl, fun h => absurd rfl h⟩
    have k8 : Kp [] H7 (upd H7 l3 (.lst [V.int u, V.int u, V.int u, V.int g])) := Kp.new fl3
    have B8 := B7.kp0 k8
    have hl3 : (upd H7 l3 (.lst [V.int u, V.int u, V.int u, V.int g])) l3 = some (.lst [V.int u, V.int u, V.int u, V.int g]) := upd_same
    obtain ⟨H8, e8⟩ : ∃ H8, H8 = upd H7 l3 (.lst [V.int u, V.int u, V.int u, V.int g]) := ⟨_, rfl⟩
    rw [← e8] at k8 B8 hl3 ⊢
    walk_at "gs"
    refine B8.spot ne (fun t H9 t0 t1 hp9 k9 B9 => ?_)
    have hm9 := B9.m.hm
    walk_at "gs"
    obtain ⟨rg, hrg, _, hrgv⟩ := B9.row hgv
    refine i_dg B9.m.hr hrgv ?_
    have lrg := (B9.m.rr _ hrg).1
    have fg := B9.few hgv
    walk_at "gs"
    refine ⟨rg, x, y, rle (w.c gv), rfl, lrg.dp, by omega, fun l4 H10 fl4 k10 ld4 => ?_⟩
    have B10 := B9.kp0 k10
    have lr10 := (B10.m.rr _ hrw).1
    have fu := B10.few hu
    obtain ⟨hgn, hgr, hgo⟩ := B10.cl gv hgv
    obtain ⟨hun, hur, huo⟩ := B10.cl u hu
    have hn := B10.n1
    have wc : wide (cut x y (rle (w.c gv))) = y - x := by
      have e := cells_len (cut x y (rle (w.c gv))) (cutF_pos _ _ _ _)
      rw [cut_rle, List.length_take, List.length_drop] at e
      omega
    have lcut : (((w.c gv).drop x.toNat).take (y.toNat - x.toNat)).length = (y - x).toNat := by
      rw [List.length_take, List.length_drop]
      omega
    walk_at "gs"
    refine ⟨r, l4, min t (n - y + x), w.c u, cut x y (rle (w.c gv)), rfl, lr10, ld4, fu, Nat.le_trans (cut_len _ _ _) fg, cutF_pos _ _ _ _, fun l5 H11 fl5 k11 ld5 => ?_⟩
    have B11 := B10.kp0 k11
    have nr5 := B10.fr fl5
    rw [cut_rle, wc] at ld5
    have f10 : Fx H H10 := fx_kp k10 (fx_kp k9 (fx_kp k8 (fx_kp k7 (fx_kp k6 f5))))
    have f11 : Fx H H11 := fx_kp k11 f10
    obtain ⟨tt, ett⟩ : ∃ tt, tt = min t (n - y + x) := ⟨_, rfl⟩
    have t2 : 0 ≤ tt ∧ tt ≤ n - (y - x) := by omega
    rw [← ett] at ld5 ⊢
    have hm11 := B11.m.hm
    obtain ⟨dx, d0, t0', hst11⟩ := B11.ins
    have lr11 := (B11.m.rr _ hrw).1
    have lrw : w.rw.length ≤ 1000 := by
      have e := congrArg List.length B.kr
      rw [List.length_map] at e
      have := B.l7
      omega
    have urw : u ∈ w.rw.map (·.1) := by rw [B.kr]; exact hu
    have c : way = 0 ∨ way = 1 ∨ way = 2 ∨ way = 3 := by omega
    rcases c with rfl | rfl | rfl | rfl
    · walk_at "gs"
      refine i_dec (fun _ => ?_) (fun c => absurd rfl c)
      walk_at "gs"
      refine i_new fun t3 ft3 => ?_
      walk_at "gs"
      refine i_new fun l6 fl6 => ?_
      obtain ⟨bb, ebb⟩ : ∃ bb, bb = min x (n - 1) := ⟨_, rfl⟩
      have b2 : 0 ≤ bb ∧ bb < n := by omega
      rw [← ebb]
      have k12 : Kp [] H11 (upd (upd H11 t3 (.tup [V.int 1, V.int v])) l6 (.lst [V.ref t3])) := Kp.trans (Kp.new ft3) (Kp.new fl6)
      have hT : SqT K (upd (upd H11 t3 (.tup [V.int 1, V.int v])) l6 (.lst [V.ref t3])) t3 [V.int 1, V.int v] := (Kp.new (ws := []) fl6).seqT (SqT.of upd_same)
      have l6d : LD K (upd (upd H11 t3 (.tup [V.int 1, V.int v])) l6 (.lst [V.ref t3])) l6 ([(1, v)].map d2) := ⟨_, upd_same, dpa_one (dp_mk2 (m := 1) (n := v) hT)⟩
      obtain ⟨H12, e12⟩ : ∃ H12, H12 = upd (upd H11 t3 (.tup [V.int 1, V.int v])) l6 (.lst [V.ref t3]) := ⟨_, rfl⟩
      rw [← e12] at k12 l6d ⊢
      have B12 := B11.kp0 k12
      walk_at "gs"
      refine ⟨r, l6, bb, w.c u, [(1, v)], rfl, (B12.m.rr _ hrw).1, l6d, fu, by rw [List.length_singleton]; decide, fun q hq => by rw [List.mem_singleton.mp hq]; exact Int.one_pos, fun l7 H13 fl7 k13 ld7 => ?_⟩
      have B13 := B12.kp0 k13
      obtain ⟨n1, n2, n3, _⟩ := B12.fr fl7
      have f13 : Fx H H13 := fx_kp k13 (fx_kp k12 f11)
      have ec : laid (w.c u) bb.toNat (cells [(1, v)]) (bb + wide [(1, v)]).toNat = laid (w.c u) bb.toNat [v] (bb + 1).toNat := rfl
      rw [ec] at ld7
      obtain ⟨v7, hv7, av7⟩ := id ld7
      have lv7 := dpa_len av7
      rw [List.length_map] at lv7
      walk_at "gs"
      refine i_dec (fun c => absurd c (by decide)) (fun _ => ?_)
      walk_at "gs"
      refine i_dec (fun _ => ?_) (fun few => ?_)
      · walk_at "gs"
        exact k _ _ _ f13 B13
      · obtain ⟨_, _, _, hst13⟩ := B13.ins
        have hm13 := B13.m.hm
        walk_at "gs"
        refine i_dec (fun _ => ?_) (fun c => absurd rfl c)
        walk_at "gs"
        refine ⟨st, w.own, n, w.ever, w.liv, w.ks, w.nb, w.c, u, bb, v, rfl, B13.s, B13.pos hu, B13.zs.nl, hu, fu, by omega, fun own' H14 k14 g14 S14 => ?_⟩
        obtain ⟨hm14, hR14, B15⟩ := B13.write k14 g14 S14 ld7 ⟨n1, n2, n3⟩ hu ⟨by
          rw [laid_len (by omega) (by omega) (by rw [List.length_singleton]; omega)]
          exact hun, by omega, fun z hz => by
          rcases laid_mem hz with h | h
          · exact huo z h
          · rw [List.mem_singleton.mp h]
            exact okv⟩
        walk_at "gs"
        refine i_setK hR14 (by rw [List.length_map]; omega) ?_
        rw [put_old urw]
        walk_at "gs"
        exact k _ _ _ (fx_mut (fx_kp k14 f13) hR14 (fun z => z)) B15
    · walk_at "gs"
      refine i_dec (fun c => absurd c (by decide)) (fun _ => ?_)
      walk_at "gs"
      refine i_dec (fun _ => ?_) (fun c => absurd rfl c)
      walk_at "gs"
      have go : ∀ (H12 : Hp) (l6 : Addr) (ps : List (Int × Int)), Kp [] H11 H12 → LD K H12 l6 (ps.map d2) → ps.length ≤ 10000 → (∀ q ∈ ps, 0 < q.1) → cells ps = List.replicate (y - x).toNat v → wide ps = y - x → ∀ Q' : VK, (∀ l7 H13, Kp [] H11 H13 → (l7 ∉ w.own ∧ l7 ∉ ownM md w.L w.N w.R w.rep ∧ l7 ≠ p) → LD K H13 l7 ((rle (laid (w.c u) x.toNat (List.replicate (y - x).toNat v) y.toNat)).map d2) → Q' (.ref l7) H13) → ∀ E', sp_with K [.ref r, .int x, .ref l6] H12 Q' E' := fun H12 l6 ps k12 ld6 lp pos e1 e2 Q' kk E' => by
        have B12 := B11.kp0 k12
        refine ⟨r, l6, x, w.c u, ps, rfl, (B12.m.rr _ hrw).1, ld6, fu, lp, pos, fun l7 H13 fl7 k13 ld7 => kk l7 H13 (Kp.trans k12 k13) ?_ ?_⟩
        · obtain ⟨n1, n2, n3, _⟩ := B12.fr fl7
          exact ⟨n1, n2, n3⟩
        · rw [e1, e2, show x + (y - x) = y by omega] at ld7
          exact ld7
      have fin : ∀ (H13 : Hp) (l7 : Addr), Kp [] H11 H13 → (l7 ∉ w.own ∧ l7 ∉ ownM md w.L w.N w.R w.rep ∧ l7 ≠ p) → LD K H13 l7 ((rle (laid (w.c u) x.toNat (List.replicate (y - x).toNat v) y.toNat)).map d2) →
          (rle (laid (w.c u) x.toNat (List.replicate (y - x).toNat v) y.toNat)).length ≤ 24 → ∀ (Q' : VK) (E' : XK), (∀ H14 B', H14 md = some (.dK (mKs n w.ever w.L w.N w.R)) → H14 w.R = some (.dK (w.rw.map kA)) → Fx H H14 → Both K T.c_Memory T.c_Ties T.c_Store (upd H14 w.R (.dK ((w.rw.map (setR u l7)).map kA))) st md p n B' → Q' .non H14) → sp_sfill K T.c_Memory T.c_Ties T.c_Store [.ref st, .int u, .int x, .int y, .int v] H13 Q' E' := fun H13 l7 k13 nr ld7 few Q' E' kk => by
        have B13 := B11.kp0 k13
        refine ⟨st, w.own, n, w.ever, w.liv, w.ks, w.nb, w.c, u, x, y, v, rfl, B13.s, B13.pos hu, B13.zs.nl, hu, fu, by omega, fun own' H14 k14 g14 S14 => ?_⟩
        obtain ⟨hm14, hR14, B15⟩ := B13.write k14 g14 S14 ld7 nr hu ⟨by
          rw [laid_len (by omega) (by omega) (by rw [List.length_replicate]; omega)]
          exact hun, few, fun z hz => by
          rcases laid_mem hz with h | h
          · exact huo z h
          · rw [(List.mem_replicate.mp h).2]
            exact okv⟩
        exact kk H14 _ hm14 hR14 (fx_kp k14 (fx_kp k13 f11)) B15
      refine i_dec (fun c => ?_) (fun c => ?_)
      · walk_at "gs"
        refine i_new fun t3 ft3 => ?_
        walk_at "gs"
        refine i_new fun l6 fl6 => ?_
        have hT : SqT K (upd (upd H11 t3 (.tup [V.int (y - x), V.int v])) l6 (.lst [V.ref t3])) t3 [V.int (y - x), V.int v] := (Kp.new (ws := []) fl6).seqT (SqT.of upd_same)
        walk_at "gs"
        refine go _ l6 [(y - x, v)] (Kp.trans (Kp.new ft3) (Kp.new fl6)) ⟨_, upd_same, dpa_one (dp_mk2 (m := y - x) (n := v) hT)⟩ (by rw [List.length_singleton]; decide) (fun q hq => by rw [List.mem_singleton.mp hq]; show 0 < y - x; omega) (by rw [cells_cons, cells_nil, List.append_nil]) (by show y - x + 0 = y - x; omega) _ (fun l7 H13 k13 nr ld7 => ?_) _
        obtain ⟨v7, hv7, av7⟩ := id ld7
        have lv7 := dpa_len av7
        rw [List.length_map] at lv7
        have B13 := B11.kp0 k13
        walk_at "gs"
        refine i_dec (fun _ => ?_) (fun few => ?_)
        · walk_at "gs"
          exact k _ _ _ (fx_kp k13 f11) B13
        · obtain ⟨_, _, _, hst13⟩ := B13.ins
          have hm13 := B13.m.hm
          walk_at "gs"
          refine i_dec (fun c => absurd c (by decide)) (fun _ => ?_)
          walk_at "gs"
          refine i_dec (fun _ => ?_) (fun c => absurd rfl c)
          walk_at "gs"
          refine fin H13 l7 k13 nr ld7 (by omega) _ _ fun H14 w' hm14 hR14 f14 B15 => ?_
          walk_at "gs"
          refine i_setK hR14 (by rw [List.length_map]; omega) ?_
          rw [put_old urw]
          walk_at "gs"
          exact k _ _ _ (fx_mut f14 hR14 (fun z => z)) B15
      · walk_at "gs"
        refine i_new fun l6 fl6 => ?_
        walk_at "gs"
        have ez : (y - x).toNat = 0 := by omega
        refine go _ l6 [] (Kp.new fl6) ⟨_, upd_same, .nil⟩ (Nat.zero_le _) (fun q hq => nomatch hq) (by rw [ez]; rfl) (by show (0 : Int) = y - x; omega) _ (fun l7 H13 k13 nr ld7 => ?_) _
        obtain ⟨v7, hv7, av7⟩ := id ld7
        have lv7 := dpa_len av7
        rw [List.length_map] at lv7
        have B13 := B11.kp0 k13
        walk_at "gs"
        refine i_dec (fun _ => ?_) (fun few => ?_)
        · walk_at "gs"
          exact k _ _ _ (fx_kp k13 f11) B13
        · obtain ⟨_, _, _, hst13⟩ := B13.ins
          have hm13 := B13.m.hm
          walk_at "gs"
          refine i_dec (fun c => absurd c (by decide)) (fun _ => ?_)
          walk_at "gs"
          refine i_dec (fun _ => ?_) (fun c => absurd rfl c)
          walk_at "gs"
          refine fin H13 l7 k13 nr ld7 (by omega) _ _ fun H14 w' hm14 hR14 f14 B15 => ?_
          walk_at "gs"
          refine i_setK hR14 (by rw [List.length_map]; omega) ?_
          rw [put_old urw]
          walk_at "gs"
          exact k _ _ _ (fx_mut f14 hR14 (fun z => z)) B15
    · obtain rfl : gv = u := hgu (by decide)
      obtain ⟨v5, hv5, av5⟩ := id ld5
      have lv5 := dpa_len av5
      rw [List.length_map] at lv5
      walk_at "gs"
      refine i_dec (fun c => absurd c (by decide)) (fun _ => ?_)
      walk_at "gs"
      refine i_dec (fun c => absurd c (by decide)) (fun _ => ?_)
      walk_at "gs"
      refine i_dec (fun _ => ?_) (fun few => ?_)
      · walk_at "gs"
        exact k _ _ _ f11 B11
      · walk_at "gs"
        refine i_dec (fun c => absurd c (by decide)) (fun _ => ?_)
        walk_at "gs"
        refine i_dec (fun c => absurd c (by decide)) (fun _ => ?_)
        walk_at "gs"
        refine i_dec (fun _ => ?_) (fun c => absurd rfl c)
        walk_at "gs"
        refine ⟨st, w.own, n, w.ever, w.liv, w.ks, w.nb, w.c, gv, x, y, tt, gv, .non, rfl, B11.s, B11.pos hu, B11.pos hu, B11.zs.nl, hu, hu, .inl ⟨rfl, rfl⟩, fu, fu, rfl, B11.len hu, by omega, by omega, fun own' H14 k14 g14 S14 => ?_⟩
        rw [show tt + (y - x) = tt + y - x by omega] at ld5
        obtain ⟨hm14, hR14, B15⟩ := B11.write k14 g14 S14 ld5 ⟨nr5.1, nr5.2.1, nr5.2.2.1⟩ hu ⟨by
          rw [laid_len (by omega) (by omega) (by rw [lcut]; omega)]
          exact hun, by rw [show tt + y - x = tt + (y - x) by omega]; omega, fun z hz => by
          rcases laid_mem hz with h | h
          · exact huo z h
          · exact huo z (List.mem_of_mem_drop (List.mem_of_mem_take h))⟩
        walk_at "gs"
        refine i_setK hR14 (by rw [List.length_map]; omega) ?_
        rw [put_old urw]
        walk_at "gs"
        exact k _ _ _ (fx_mut (fx_kp k14 f11) hR14 (fun z => z)) B15
    · obtain ⟨v5, hv5, av5⟩ := id ld5
      have lv5 := dpa_len av5
      rw [List.length_map] at lv5
      walk_at "gs"
      refine i_dec (fun c => absurd c (by decide)) (fun _ => ?_)
      walk_at "gs"
      refine i_dec (fun c => absurd c (by decide)) (fun _ => ?_)
      walk_at "gs"
      refine i_dec (fun _ => ?_) (fun few => ?_)
      · walk_at "gs"
        exact k _ _ _ f11 B11
      · walk_at "gs"
        refine i_dec (fun c => absurd c (by decide)) (fun _ => ?_)
        walk_at "gs"
        refine i_dec (fun c => absurd c (by decide)) (fun _ => ?_)
        walk_at "gs"
        refine i_dec (fun c => absurd c (by decide)) (fun _ => ?_)
        walk_at "gs"
        refine ⟨st, w.own, n, w.ever, w.liv, w.ks, w.nb, w.c, u, x, y, tt, gv, .int gv, rfl, B11.s, B11.pos hu, B11.pos hgv, B11.zs.nl, hu, hgv, .inr rfl, fu, fg, by omega, B11.len hu, by omega, by omega, fun own' H14 k14 g14 S14 => ?_⟩
        rw [show tt + (y - x) = tt + y - x by omega] at ld5
        obtain ⟨hm14, hR14, B15⟩ := B11.write k14 g14 S14 ld5 ⟨nr5.1, nr5.2.1, nr5.2.2.1⟩ hu ⟨by
          rw [laid_len (by omega) (by omega) (by rw [lcut]; omega)]
          exact hun, by rw [show tt + y - x = tt + (y - x) by omega]; omega, fun z hz => by
          rcases laid_mem hz with h | h
          · exact huo z h
          · exact hgo z (List.mem_of_mem_drop (List.mem_of_mem_take h))⟩
        walk_at "gs"
        refine i_setK hR14 (by rw [List.length_map]; omega) ?_
        rw [put_old urw]
        walk_at "gs"
        exact k _ _ _ (fx_mut (fx_kp k14 f11) hR14 (fun z => z)) B15

section
variable {K : PySem.W.Frag} {CM CT CS : Addr} {H H1 H2 : Hp} {st md p : Addr} {n : Int} {w : Wd}
theorem Both.tm (B : Both K CM CT CS H st md p n w) : ∀ b ∈ ownM md w.L w.N w.R w.rep, Tr H b := fun b hb => by
  obtain ⟨x, e⟩ := B.m.known b hb
  exact ⟨x, e⟩
theorem fr_not_tr {H : Hp} {b : Addr} (f : Fr H b) (t : Tr H b) : False := fr_tr t f rfl
/-- a fork, in the store and in the model -/
theorem Both.forked (B : Both K CM CT CS H st md p n w) {u : Int} (hu : u ∈ w.liv) {own1 : List Addr} (k : Kp w.own H H1) (g : Grow H w.own own1)
    (S1 : StoreAt K CM CT CS H1 st own1 n (w.ever + 1) (w.liv ++ [w.ever]) (w.ks ++ [w.ever]) (forkN w.nb w.ever u) (setC w.c w.ever (w.c u))) (z1 : Tr3 (Dk w.D w.ever u) (w.ever + 1) (w.liv ++ [w.ever]) (w.ks ++ [w.ever]) (forkN w.nb w.ever u))
    {rep' rw' : List (Int × Addr)} (k2 : Kp (ownM md w.L w.N w.R w.rep) H1 H2) (g2 : Grow H1 (ownM md w.L w.N w.R w.rep) (ownM md w.L w.N w.R rep')) (hrw : ∀ q ∈ rw', q ∈ w.rw ∨ Fr H1 q.2) (krep : rep'.map (·.1) = w.rep.map (·.1) ++ [w.ever]) (krw : rw'.map (·.1) = w.liv ++ [w.ever])
    (m2 : MoX K H2 md w.L w.N w.R rep' rw' n (w.ever + 1) (w.liv ++ [w.ever]) (forkN w.nbm w.ever u) (setC w.c w.ever (w.c u))) (he : w.ever < 100) (hl : w.liv.length < 100) :
    Both K CM CT CS H2 st md p n { w with own := own1, rep := rep', rw := rw', ever := w.ever + 1, liv := w.liv ++ [w.ever], ks := w.ks ++ [w.ever], nb := forkN w.nb w.ever u, nbm := forkN w.nbm w.ever u, c := setC w.c w.ever (w.c u), D := Dk w.D w.ever u } := by
  have nin : ∀ {b : Addr}, Tr H b → b ∉ w.own → b ∉ own1 := fun {b} t h => g.nin t h
  have tr1 : ∀ b ∈ own1, Tr H1 b := fun b hb => by
    obtain ⟨x, e⟩ := S1.known b hb
    exact ⟨x, e⟩
  have o1 : ∀ b ∈ own1, b ∉ ownM md w.L w.N w.R w.rep := fun b hb z => nin (B.tm b z) (fun h => B.ap b h z) hb
  have pot1 := B.pot.kp k B.ps
  refine ⟨S1.kp k2 o1, m2, krw, z1, ?_, fun b hb z => ?_, fun q hq z => ?_, fun v hv => ?_, B.n1, by show w.ever + 1 ≤ 100; omega, by show (w.liv ++ [w.ever]).length ≤ 100; rw [List.length_append, List.length_singleton]; omega, pot1.kp k2 B.pm, nin (tr_pot B.pot) B.ps, g2.nin (tr_pot pot1) B.pm, fun q hq => ?_⟩
  · show Tr3 (Dk w.D w.ever u) (w.ever + 1) (w.liv ++ [w.ever]) (rep'.map (·.1)) (forkN w.nbm w.ever u)
    rw [krep]
    exact B.zm.fork (B.zm.sub u hu)
  · rcases g2 b z with h | h
    · exact o1 b hb h
    · exact fr_not_tr h (tr1 b hb)
  · rcases hrw q hq with h | h
    · exact nin (B.m.rtr h) (B.ar q h) z
    · exact fr_not_tr h (tr1 _ z)
  · show (((setC w.c w.ever (w.c u)) v).length : Int) = n ∧ _
    unfold setC
    by_cases c : v = w.ever
    · rw [if_pos c]
      refine ⟨(B.cl u hu).1, ?_⟩
      simp only [if_pos c]
      exact (B.cl u hu).2
    · have hv' : v ∈ w.liv := (List.mem_append.mp hv).resolve_right fun h => c (List.mem_singleton.mp h)
      rw [if_neg c]
      refine ⟨(B.cl v hv').1, ?_⟩
      simp only [if_neg c]
      exact (B.cl v hv').2
  · rcases hrw q hq with h | h
    · exact B.pr q h
    · exact fun e => fr_not_tr h (by rw [e]; exact tr_pot pot1)
/-- an end, in the store and in the model -/
theorem Both.ended (B : Both K CM CT CS H st md p n w) {u : Int} {own1 : List Addr} {ks1 : List Int} {nb1 nb2 : Int → List Int} (k : Kp w.own H H1) (g : Grow H w.own own1)
    (S1 : StoreAt K CM CT CS H1 st own1 n w.ever (w.liv.erase u) ks1 nb1 w.c) (z1 : Tr3 w.D w.ever (w.liv.erase u) ks1 nb1)
    {rep' rw' : List (Int × Addr)} (k2 : Kp (ownM md w.L w.N w.R w.rep) H1 H2) (sub : ∀ b ∈ ownM md w.L w.N w.R rep', b ∈ ownM md w.L w.N w.R w.rep) (hrw : ∀ q ∈ rw', q ∈ w.rw) (krw : rw'.map (·.1) = w.liv.erase u)
    (m2 : MoX K H2 md w.L w.N w.R rep' rw' n w.ever (w.liv.erase u) nb2 w.c) (z2 : Tr3 w.D w.ever (w.liv.erase u) (rep'.map (·.1)) nb2) :
    Both K CM CT CS H2 st md p n { w with own := own1, rep := rep', rw := rw', liv := w.liv.erase u, ks := ks1, nb := nb1, nbm := nb2 } := by
  have nin : ∀ {b : Addr}, Tr H b → b ∉ w.own → b ∉ own1 := fun {b} t h => g.nin t h
  have o1 : ∀ b ∈ own1, b ∉ ownM md w.L w.N w.R w.rep := fun b hb z => nin (B.tm b z) (fun h => B.ap b h z) hb
  have le := List.length_erase_le (a := u) (l := w.liv)
  exact ⟨S1.kp k2 o1, m2, krw, z1, z2, fun b hb z => o1 b hb (sub b z), fun q hq => nin (B.m.rtr (hrw q hq)) (B.ar q (hrw q hq)), fun v hv => B.cl v (List.mem_of_mem_erase hv), B.n1, B.ev, Nat.le_trans le B.l7, (B.pot.kp k B.ps).kp k2 B.pm, nin (tr_pot B.pot) B.ps, fun z => B.pm (sub _ z), fun q hq => B.pr q (hrw q hq)⟩
end

theorem fx_trans {H H1 H2 : Hp} (a : Fx H H1) (b : Fx H1 H2) : Fx H H2 := ⟨fun x u e z => b.fx x u (a.fx x u e z) z⟩
theorem i_cutIfR {c : TT} {s1 s2 : TS} {D : Ends} {σ : L2.St} {H : Hp} (P : L2.St → Hp → Prop) (k : ∀ σ' H', P σ' H' → D.nx σ' H') (h : ∀ D' : Ends, (∀ σ' H', P σ' H' → D'.nx σ' H') → D'.rt = D.rt → tIfS c s1 s2 D' σ H) : tIfS c s1 s2 D σ H := h D k rfl
def sp_ldeed (K : PySem.W.Frag) (CM CT CS : Addr) : Sp := fun vs H Q _ => ∃ (st md p : Addr) (n : Int) (w : Wd), vs = [.ref p, .ref st, .ref md] ∧ Both K CM CT CS H st md p n w ∧ ∀ (s : Str) w' H', Fx H H' → Both K CM CT CS H' st md p n w' → s ≠ "unlike" → Q (.str s) H'
theorem sc_law_deed : FnScope ["_law_pot_here", "_law_store", "_law_model_here", "_law_way", "_law_being", "_law_told"] ["_law_pot_here", "_law_store", "_law_model_here"] (defScope s_law_deed) :=
  ⟨rfl, rfl, rfl, by decide +kernel, rfl, by decide +kernel, by decide +kernel⟩
theorem ok_law_deed {P : Program} {w : World} {K : PySem.W.Frag} {mg : Str → Option Value} {base : Heap} (T : Txt K mg) :
    FnG P w K mg base 11 T.a_law_deed T.d_law_deed ["_law_pot_here", "_law_store", "_law_model_here"] (sp_ldeed K T.c_Memory T.c_Ties T.c_Store) := by
  refine okD T.F_law_deed sc_law_deed (fun vs H Q E h => ?_) (fun cdv A outer s H vs Q E hr h => ?_)
  · first
      | (obtain ⟨_, rfl, _⟩ := h; rfl)
      | (obtain ⟨_, _, rfl, _⟩ := h; rfl)
      | (obtain ⟨_, _, _, rfl, _⟩ := h; rfl)
      | (obtain ⟨_, _, _, _, rfl, _⟩ := h; rfl)
      | (obtain ⟨_, _, _, _, _, rfl, _⟩ := h; rfl)
      | (obtain ⟨_, _, _, _, _, _, rfl, _⟩ := h; rfl)
      | (obtain ⟨_, _, _, _, _, _, _, rfl, _⟩ := h; rfl)
      | (obtain ⟨_, _, _, _, _, _, _, _, rfl, _⟩ := h; rfl)
      | (obtain ⟨_, _, _, _, _, _, _, _, _, rfl, _⟩ := h; rfl)
      | (obtain ⟨_, _, _, _, _, _, _, _, _, _, rfl, _⟩ := h; rfl)
      | (obtain ⟨_, _, _, _, _, _, _, _, _, _, _, rfl, _⟩ := h; rfl)
      | (obtain ⟨_, _, _, _, _, _, _, _, _, _, _, _, rfl, _⟩ := h; rfl)
      | (obtain ⟨_, _, _, _, _, _, _, _, _, _, _, _, _, rfl, _⟩ := h; rfl)
      | (obtain ⟨_, _, _, _, _, _, _, _, _, _, _, _, _, _, rfl, _⟩ := h; rfl)
      | (obtain ⟨_, _, _, _, _, _, _, _, _, _, _, _, _, _, _, rfl, _⟩ := h; rfl)
      | (obtain ⟨_, _, _, _, _, _, _, _, _, _, _, _, _, _, _, _, rfl, _⟩ := h; rfl)
      | (obtain ⟨_, _, _, _, _, _, _, _, _, _, _, _, _, _, _, _, _, rfl, _⟩ := h; rfl)
      | (obtain ⟨_, _, _, _, _, _, _, _, _, _, _, _, _, _, _, _, _, _, rfl, _⟩ := h; rfl)
      | (obtain ⟨_, _, _, _, _, _, _, _, _, _, _, _, _, _, _, _, _, _, _, rfl, _⟩ := h; rfl)
  · obtain ⟨st, md, p, n, w, rfl, B, k⟩ := h
    have cl_Memory := T.cl_Memory
    have na_Memory_pairs := T.na_Memory_pairs
    have na_Memory_wide := T.na_Memory_wide
    have cl_Ties := T.cl_Ties
    have na_Ties_near := T.na_Ties_near
    have na_Ties_own_ever := T.na_Ties_own_ever
    have na_Ties_own_living := T.na_Ties_own_living
    have cl_Store := T.cl_Store
    have na_Store_kept_by_world := T.na_Store_kept_by_world
    have na_Store_own_size := T.na_Store_own_size
    have na_Store_own_ties := T.na_Store_own_ties
    refine ⟨_, (pss_cons (ps_set (i := 3) sc_law_deed.nd rfl (Or.inl rfl) (d1 (ok_law_take T) (hr.mono (by decide)) (by rfl) T.m_law_take T.F_law_take.kp T.b_law_take passL (pa_cons (pv 0) (pa_cons pe_int pa_nil))))
      (pss_cons (ps_if (pt_cmpR (k_eq (K := K) rfl hr.r.units) (pe_dget (u1 hr.r.units) (pv 2) pe_str (fun _ _ => rfl)) (pe_lst pa_nil) (nomark _)) (pss_one (ps_ret pe_str)) pss_nil)
      (pss_cons (ps_if (PW.pt (pw_and (pt_cmpR op_lt (pv 3) pe_int (nomark _)) (pw_and (pt_cmpR op_lt (pe_callB (k_len (K := K) rfl) (by rfl) T.n_len (by decide +kernel) (pa_cons (pe_dget (u1 hr.r.units) (pv 2) pe_str (fun _ _ => rfl)) pa_nil)) pe_int (nomark _)) (pw_and1 (pt_cmpR op_lt (pe_dget (u1 hr.r.units) (pv 2) pe_str (fun _ _ => rfl)) pe_int (nomark _)))))) (pss_cons (ps_set (i := 4) sc_law_deed.nd rfl (Or.inl rfl) (d1 (ok_law_among T) (hr.mono (by decide)) (by rfl) T.m_law_among T.F_law_among.kp T.b_law_among passL (pa_cons (pv 0) (pa_cons (pe_dget (u1 hr.r.units) (pv 2) pe_str (fun _ _ => rfl)) pa_nil))))
      (pss_one (ps_ret (pe_ifExp (pt_cmpR (k_eq (K := K) rfl hr.r.units) (dm T.cl_Store T.me_Store_fork (ok_Store_fork T) (hr.mono (by decide)) T.b_Store_fork passL (pv 1) (pa_cons (pv 4) pa_nil)) (d1 (ok_law_forked T) (hr.mono (by decide)) (by rfl) T.m_law_forked T.F_law_forked.kp T.b_law_forked passL (pa_cons (pv 2) (pa_cons (pv 4) pa_nil))) (nomark _)) pe_str pe_str)))) pss_nil)
      (pss_cons (ps_if (PW.pt (pw_and (pt_cmpR (k_eq (K := K) rfl hr.r.units) (pv 3) pe_int (nomark _)) (pw_and1 (PW.pt (pw_or (pt_cmpR op_gt (pe_callB (k_len (K := K) rfl) (by rfl) T.n_len (by decide +kernel) (pa_cons (pe_dget (u1 hr.r.units) (pv 2) pe_str (fun _ _ => rfl)) pa_nil)) pe_int (nomark _)) (pw_or1 (pt_cmpR (k_eq (K := K) rfl hr.r.units) (d1 (ok_law_take T) (hr.mono (by decide)) (by rfl) T.m_law_take T.F_law_take.kp T.b_law_take passL (pa_cons (pv 0) (pa_cons pe_int pa_nil))) pe_int (nomark _)))))))) (pss_cons (ps_set (i := 4) sc_law_deed.nd rfl (Or.inl rfl) (d1 (ok_law_among T) (hr.mono (by decide)) (by rfl) T.m_law_among T.F_law_among.kp T.b_law_among passL (pa_cons (pv 0) (pa_cons (pe_dget (u1 hr.r.units) (pv 2) pe_str (fun _ _ => rfl)) pa_nil))))
      (pss_cons (ps_set (i := 5) sc_law_deed.nd rfl (Or.inl rfl) (dm T.cl_Store T.me_Store_end (ok_Store_end T) (hr.mono (by decide)) T.b_Store_end passL (pv 1) (pa_cons (pv 4) pa_nil)))
      (pss_cons (ps_expr (d1 (ok_law_ended T) (hr.mono (by decide)) (by rfl) T.m_law_ended T.F_law_ended.kp T.b_law_ended passL (pa_cons (pv 2) (pa_cons (pv 4) pa_nil))))
      (pss_one (ps_ret (pe_ifExp (pt_cmpR op_isN1 (pv 5) pe_non (nomark _)) pe_str pe_str)))))) pss_nil)
      (pss_cons (ps_expr (d1 (ok_law_written T) (hr.mono (by decide)) (by rfl) T.m_law_written T.F_law_written.kp T.b_law_written passL (pa_cons (pv 0) (pa_cons (pv 1) (pa_cons (pv 2) pa_nil)))))
      (pss_one (ps_ret pe_str))))))), ?_⟩
    dsimp only [cxOf, st_1, st_2, st_3, st_4, st_5, st_6, List.length_cons, List.length_nil, List.replicate_succ, List.replicate_zero, Nat.reduceAdd, Nat.reduceSub]
    walk_at "gs"
    refine use_take B.pot (by decide) (by decide) (fun way H1 y0 y1 hp1 k1 => ?_)
    have B1 := B.kpp k1 hp1
    have hm1 := B1.m.hm
    walk_at "gs"
    refine i_new fun q fq => ?_
    have kq : Kp [] H1 (upd H1 q (.lst [])) := Kp.new fq
    have B2 := B1.kp0 kq
    have f2 : Fx H (upd H1 q (.lst [])) := fx_kp kq (fx_kp k1 fx_refl)
    walk_at "gs"
    refine eq_ints (l := w.liv) (r := []) (SqL.of B2.m.hl) (SqL.of upd_same) ?_
    obtain ⟨H2, e2⟩ : ∃ H2, H2 = upd H1 q (.lst []) := ⟨_, rfl⟩
    rw [← e2] at B2 f2 ⊢
    walk_at "gs"
    refine i_dec (fun _ => ?_) (fun ne => ?_)
    · walk_at "gs"
      exact k _ _ _ f2 B2 (by decide +kernel)
    have hm2 := B2.m.hm
    have hl2 := B2.m.hl
    obtain ⟨_, _, _, hst2⟩ := B2.ins
    have ne' : w.liv ≠ [] := ne
    have ev2 := B.ev
    with_reducible refine i_next ?_
    with_reducible refine i_seq ?_
    with_reducible refine i_cutIfR (fun σ' H' => σ' = [some (V.ref p), some (.ref st), some (.ref md), some (.int way), none, none] ∧ H' = H2) ?_ (fun D' go er => ?_)
    · rintro σ' H' ⟨rfl, rfl⟩
      have hl3 := hl2
      with_reducible refine i_seq ?_
      with_reducible refine i_cutIfR (fun σ' H' => σ' = [some (V.ref p), some (.ref st), some (.ref md), some (.int way), none, none] ∧ Fx H H' ∧ Both K T.c_Memory T.c_Ties T.c_Store H' st md p n w) ?_ (fun D' go er => ?_)
      · rintro σ' H' ⟨rfl, f3, B3⟩
        walk_at "gs"
        refine ⟨st, md, p, n, w, rfl, B3, ne', fun v w' H4 f4 B4 => ?_⟩
        walk_at "gs"
        exact k _ w' H4 (fx_trans f3 f4) B4 (by decide +kernel)
      · walk_at "gs"
        refine i_dec (fun c1 => ?_) (fun _ => ?_)
        · walk_at "gs"
          rw [List.length_map]
          refine i_dec (fun c2 => ?_) (fun _ => ?_)
          · walk_at "gs"
            refine B2.among ne' (fun u H5 hu hp5 k5 B5 => ?_)
            obtain ⟨_, _, _, hst5⟩ := B5.ins
            walk_at "gs"
            refine ⟨w.D, st, w.own, n, w.ever, w.liv, w.ks, w.nb, w.c, u, rfl, B5.s, B5.zs, by omega, hu, fun own1 ks1 nb1 H6 k6 g6 S6 z6 => ?_⟩
            have m6 := B5.m.kp k6 (fun b hb z => B5.ap b z hb) B5.ar
            walk_at "gs"
            refine ⟨w.D, md, w.L, w.N, w.R, w.rep, w.rw, n, w.ever, w.liv, w.nbm, w.c, u, rfl, m6, B5.kr, B5.zm, by omega, hu, fun rep' rw' nb2 H7 k7 sub7 hrw7 krw7 m7 z7 => ?_⟩
            have B7 := B5.ended k6 g6 S6 z6 k7 sub7 hrw7 krw7 m7 z7
            walk_at "gs"
            rw [er]
            exact k _ _ _ (fx_kp k7 (fx_kp k6 (fx_kp k5 f2))) B7 (by decide +kernel)
          · walk_at "gs"
            refine use_take B2.pot (by decide) (by decide) (fun z H3 z0 z1 hp3 k3 => ?_)
            have B3 := B2.kpp k3 hp3
            have f3 := fx_kp k3 f2
            have hm3 := B3.m.hm
            walk_at "gs"
            refine i_dec (fun c2 => ?_) (fun _ => ?_)
            · walk_at "gs"
              refine B3.among ne' (fun u H5 hu hp5 k5 B5 => ?_)
              obtain ⟨_, _, _, hst5⟩ := B5.ins
              walk_at "gs"
              refine ⟨w.D, st, w.own, n, w.ever, w.liv, w.ks, w.nb, w.c, u, rfl, B5.s, B5.zs, by omega, hu, fun own1 ks1 nb1 H6 k6 g6 S6 z6 => ?_⟩
              have m6 := B5.m.kp k6 (fun b hb z => B5.ap b z hb) B5.ar
              walk_at "gs"
              refine ⟨w.D, md, w.L, w.N, w.R, w.rep, w.rw, n, w.ever, w.liv, w.nbm, w.c, u, rfl, m6, B5.kr, B5.zm, by omega, hu, fun rep' rw' nb2 H7 k7 sub7 hrw7 krw7 m7 z7 => ?_⟩
              have B7 := B5.ended k6 g6 S6 z6 k7 sub7 hrw7 krw7 m7 z7
              walk_at "gs"
              rw [er]
              exact k _ _ _ (fx_kp k7 (fx_kp k6 (fx_kp k5 f3))) B7 (by decide +kernel)
            · walk_at "gs"
              exact go _ _ ⟨rfl, f3, B3⟩
        · walk_at "gs"
          exact go _ _ ⟨rfl, f2, B2⟩
    · have no : D'.nx [some (V.ref p), some (.ref st), some (.ref md), some (.int way), none, none] H2 := go _ _ ⟨rfl, rfl⟩
      walk_at "gs"
      refine i_dec (fun c1 => ?_) (fun _ => ?_)
      · walk_at "gs"
        rw [List.length_map]
        refine i_dec (fun c2 => ?_) (fun _ => ?_)
        · walk_at "gs"
          refine i_dec (fun c3 => ?_) (fun _ => ?_)
          · walk_at "gs"
            refine B2.among ne' (fun u H3 hu hp3 k3 B3 => ?_)
            obtain ⟨_, _, _, hst3⟩ := B3.ins
            walk_at "gs"
            refine ⟨w.D, st, w.own, n, w.ever, w.liv, w.ks, w.nb, w.c, u, rfl, B3.s, B3.zs, by omega, hu, B3.len hu, B3.few hu, fun own1 H4 k4 g4 S4 z4 => ?_⟩
            have m4 := B3.m.kp k4 (fun b hb z => B3.ap b z hb) B3.ar
            have fw := (B3.cl u hu).2.1
            walk_at "gs"
            refine ⟨w.D, md, w.L, w.N, w.R, w.rep, w.rw, n, w.ever, w.liv, w.nbm, w.c, u, rfl, m4, B3.kr, B3.zm, by omega, hu, by omega, fun rep' rw' H5 k5 g5 hrw5 krep5 krw5 m5 => ?_⟩
            have B5 := B3.forked hu k4 g4 S4 z4 k5 g5 hrw5 krep5 krw5 m5 (by omega) (by omega)
            walk_at "gs"
            refine i_dec (fun _ => ?_) (fun c => absurd rfl c)
            walk_at "gs"
            rw [er]
            exact k _ _ _ (fx_kp k5 (fx_kp k4 (fx_kp k3 f2))) B5 (by decide +kernel)
          · walk_at "gs"
            exact no
        · walk_at "gs"
          exact no
      · walk_at "gs"
        exact no

/-! ### len(o) by the text's own method -/
section
variable {X : Cx} {K : PySem.W.Frag} {k : Nat} {C f : Addr} {fd : FuncData} {ps : List Str} {sp : Sp} {E : XK}
theorem run_in {A : Around} {pins : List (Addr × Obj)} {σ : L2.St} {H : Hp} {s : Shared} {Q : VK} {vs : List V} {us : List Value}
    (F : Fg X k f fd ps sp) (z : RoomG k A) (hA : A.frames = X.A.frames) (hb : BindsD X.K fd ps []) (hx : Ps X E)
    (I : Inv X pins σ H s) (r : Vals vs us) (h : sp vs H Q E) :
    wpAny (model X.prog X.w) A (call (.ref f) us) (EP X pins σ Q) X.xe s := by
  obtain ⟨ds, hd, hb⟩ := hb
  cases hd
  have e := I.env0
  have e0 : Env0 X.prog X.w X.K X.mg X.base A X.stack s H :=
    ⟨by rw [hA]; exact e.frames, e.mod, e.bs, e.bsz, e.funs, e.frf, e.hok, e.bare⟩
  have hl : (us ++ []).length = ps.length := by
    rw [List.append_nil, ← r.length]
    exact F.len _ _ _ _ h
  have b := hb s us I.kIn hl
  rw [List.append_nil] at b
  refine wpAny_call (codeAny_mono (F.run A X.stack s H ⟨us, []⟩ us vs Q E z e0 b r h) ?_)
  intro q s' hq
  match q, hq with
  | .error e, hq => exact hx pins σ H s e s' I hq
  | .ok (.ret u), hq => exact I.after hq
  | .ok .next, hq => exact False.elim hq
  | .ok .brk, hq => exact False.elim hq
  | .ok .cont, hq => exact False.elim hq
theorem RoomG.in1 {k : Nat} {A : Around} (z : RoomG (k + 1) A) : RoomG k A.in1 := ⟨z.r.in1, z.g⟩
end

section
variable {X : Cx} {K : PySem.W.Frag} {k : Nat} {C f : Addr} {fd : FuncData} {ps : List Str} {sp : Sp} {E : XK}
def rLenM (C : Addr) (sp : Sp) (E : XK) : List V → Hp → VK → Prop := fun xs H Q => ∃ (a dx : Addr) (fs : List (Str × V)), xs = [.ref a] ∧ H a = some (.ins C dx fs) ∧
  sp [.ref a] H (fun v H' => ∃ n : Int, v = .int n ∧ (0 ≤ n ∧ n < 9223372036854775808) ∧ Q (.int n) H') E
theorem k_lenM (h : X.K = K) (hm : Meth X.K C "__len__" f) (F : Fg X k f fd ps sp) (z : RoomG (k + 1) X.A) (hb : BindsD X.K fd ps []) (hx : Ps X E) :
    CallR X (.builtin "len") (rLenM C sp E) := by
  intro pins s σ H xs us Q I r h
  obtain ⟨a, dx, fs, rfl, ha, hsp⟩ := h
  obtain ⟨u, rfl, rx⟩ := vals1 r
  cases rx
  obtain ⟨mA, J, _⟩ := ins_get I.hok ha
  obtain ⟨od, J, _⟩ := J.look
  obtain ⟨m, hF⟩ := I.fr
  refine PySem.W.len_K hF I.ok.mod.kin J hm.at_ hm.fn ?_
  have r0 : Vals [V.ref a] [Value.ref a] := .cons rfl .nil
  refine wpAny_mono (run_in F (RoomG.in1 z) rfl hb hx I r0 hsp) ?_ (fun e s' q => q)
  rintro u s' ⟨v, H', I', rv, n, rfl, hn, q⟩
  obtain ⟨t, rfl⟩ := rv
  exact ⟨hn, ⟨.int n, H', I'.tok _, ⟨_, rfl⟩, q⟩⟩
theorem i_lenM {H : Hp} {Q : VK} {a dx : Addr} {fs : List (Str × V)} (ha : H a = some (.ins C dx fs))
    (h : sp [.ref a] H (fun v H' => ∃ n : Int, v = .int n ∧ (0 ≤ n ∧ n < 9223372036854775808) ∧ Q (.int n) H') E) : rLenM C sp E [.ref a] H Q :=
  ⟨a, dx, fs, rfl, ha, h⟩
end

theorem run_cell {ps : List (Int × Int)} (h : ∀ q ∈ ps, 0 < q.1) {i : Nat} {p : Int × Int} (hp : ps[i]? = some p) {x : Nat}
    (h0 : wide (ps.take i) ≤ x) (h1 : (x : Int) < wide (ps.take i) + p.1) : (cells ps)[x]? = some p.2 := by
  obtain ⟨hi, e⟩ := List.getElem?_eq_some_iff.mp hp
  have hs : ps = ps.take i ++ (p :: ps.drop (i + 1)) := by
    rw [← e, ← List.drop_eq_getElem_cons hi, List.take_append_drop]
  have hl := cells_len (ps.take i) fun q hq => h q (List.mem_of_mem_take hq)
  rw [hs, cells_app, cells_cons, List.getElem?_append_right (by omega), List.getElem?_append_left (by rw [List.length_replicate]; omega),
    List.getElem?_replicate, if_pos (by omega)]
theorem okI_M {v : Int} (h : okM v) : okI v := okI_of (by have := h.1; omega) (by have := h.2; omega)
theorem ok_runs {cs : List Int} (h : ∀ v ∈ cs, okM v) (hl : cs.length ≤ 1000000000000000000) : ∀ q ∈ rle cs, okI q.1 ∧ okI q.2 := by
  intro q hq
  obtain ⟨i, hi⟩ := List.getElem?_of_mem hq
  have hp := rle_pos cs q hq
  have hw := wide_nn (ps := (rle cs).take i) fun z hz => rle_pos cs z (List.mem_of_mem_take hz)
  have cell : ∀ x : Nat, wide ((rle cs).take i) ≤ x → (x : Int) < wide ((rle cs).take i) + q.1 → cs[x]? = some q.2 := fun x h0 h1 => by
    have z := run_cell (rle_pos cs) hi h0 h1
    rw [cells_rle] at z
    exact z
  refine ⟨?_, ?_⟩
  · have z := cell (wide ((rle cs).take i) + q.1 - 1).toNat (by omega) (by omega)
    have := (List.getElem?_eq_some_iff.mp z).1
    exact okI_of (by omega) (by omega)
  · have z := cell (wide ((rle cs).take i)).toNat (by omega) (by omega)
    exact okI_M (h _ (List.mem_of_getElem? z))
theorem repr_int {K : PySem.W.Frag} {H : Hp} {Q : VK} {n : Int} (h : okI n) (q : Q (.str (PyData.int n).shown) H) : rRepr K [.int n] H Q :=
  i_repr (.int n) (decide_eq_true h) (by simp only [PyData.depth]; omega) (by simp only [cw]; exact (by decide)) q
/-- what is told of the living says what is told of the free ones, and of the ties -/
theorem same_free {D : Int → Int → Int} {ever : Int} {liv ks ks' fs fs' : List Int} {nb nb' : Int → List Int} (z : Tr3 D ever liv ks nb) (z' : Tr3 D ever liv ks' nb') (h1 : FreeOf liv ks fs) (h3 : FreeOf liv ks' fs') : fs = fs' := by
  obtain ⟨same1, _⟩ := z.same z' fun _ => Iff.rfl
  exact lt_uniq h1.1 h3.1 fun x => by rw [h1.2, h3.2, same1]
theorem same_rows {D : Int → Int → Int} {ever : Int} {liv ks ks' : List Int} {rs rs' : List (Int × Int)} {nb nb' : Int → List Int} (z : Tr3 D ever liv ks nb) (z' : Tr3 D ever liv ks' nb') (h2 : RowsOf ks nb rs) (h4 : RowsOf ks' nb' rs') : rs = rs' := by
  obtain ⟨same1, same2⟩ := z.same z' fun _ => Iff.rfl
  refine ltQ_uniq h2.1 h4.1 fun q => ?_
  rw [h2.2, h4.2]
  constructor
  · rintro ⟨u1, u2, u3⟩
    exact ⟨(same1 _).mp u1, (same2 _ u1 _).mp u2, u3⟩
  · rintro ⟨u1, u2, u3⟩
    exact ⟨(same1 _).mpr u1, (same2 _ ((same1 _).mpr u1) _).mpr u2, u3⟩
def threeD (e : Int) (l f : List Int) : PyData := .list [.int e, .list (l.map .int), .list (f.map .int)]
theorem shaped_three {e : Int} {l f : List Int} : SeqAt.shaped (threeD e l f) = true := by
  refine shaped_of ?_ ?_
  · simp only [threeD, PyData.canLay0, PyData.canLayAll0, canLay_ints, Bool.and_self]
  · have a := depth_ints l
    have b := depth_ints f
    simp only [threeD, PyData.depth, PyData.depthAll]
    omega
theorem dp_three {K : PySem.W.Frag} {H : Hp} {a b d : Addr} {e : Int} {l f : List Int} (h : H a = some (.lst [.int e, .ref b, .ref d])) (hb : H b = some (.lst (l.map V.int))) (hd : H d = some (.lst (f.map V.int))) : Dp K H (.ref a) (threeD e l f) :=
  .lst (SqL.of h) (.cons (.int e) (.cons (dp_ints (SqL.of hb)) (.cons (dp_ints (SqL.of hd)) .nil)))

def sp_lstands (K : PySem.W.Frag) (CM CT CS : Addr) : Sp := fun vs H Q _ => ∃ (st md p : Addr) (n : Int) (w : Wd), vs = [.ref p, .ref st, .ref md] ∧ Both K CM CT CS H st md p n w ∧ ∀ H', Fx H H' → Both K CM CT CS H' st md p n w → Q (.bl true) H'
theorem sc_law_stands : FnScope ["_law_pot_here", "_law_store", "_law_model_here", "_law_tree", "_law_being", "_law_row", "_law_cell"] ["_law_pot_here", "_law_store", "_law_model_here"] (defScope s_law_stands) :=
  ⟨rfl, rfl, rfl, by decide +kernel, rfl, by decide +kernel, by decide +kernel⟩
theorem ok_law_stands {P : Program} {w : World} {K : PySem.W.Frag} {mg : Str → Option Value} {base : Heap} (T : Txt K mg) :
    FnG P w K mg base 10 T.a_law_stands T.d_law_stands ["_law_pot_here", "_law_store", "_law_model_here"] (sp_lstands K T.c_Memory T.c_Ties T.c_Store) := by
  refine okD T.F_law_stands sc_law_stands (fun vs H Q E h => ?_) (fun cdv A outer s H vs Q E hr h => ?_)
  · first
      | (obtain ⟨_, rfl, _⟩ := h; rfl)
      | (obtain ⟨_, _, rfl, _⟩ := h; rfl)
      | (obtain ⟨_, _, _, rfl, _⟩ := h; rfl)
      | (obtain ⟨_, _, _, _, rfl, _⟩ := h; rfl)
      | (obtain ⟨_, _, _, _, _, rfl, _⟩ := h; rfl)
      | (obtain ⟨_, _, _, _, _, _, rfl, _⟩ := h; rfl)
      | (obtain ⟨_, _, _, _, _, _, _, rfl, _⟩ := h; rfl)
      | (obtain ⟨_, _, _, _, _, _, _, _, rfl, _⟩ := h; rfl)
      | (obtain ⟨_, _, _, _, _, _, _, _, _, rfl, _⟩ := h; rfl)
      | (obtain ⟨_, _, _, _, _, _, _, _, _, _, rfl, _⟩ := h; rfl)
      | (obtain ⟨_, _, _, _, _, _, _, _, _, _, _, rfl, _⟩ := h; rfl)
      | (obtain ⟨_, _, _, _, _, _, _, _, _, _, _, _, rfl, _⟩ := h; rfl)
      | (obtain ⟨_, _, _, _, _, _, _, _, _, _, _, _, _, rfl, _⟩ := h; rfl)
      | (obtain ⟨_, _, _, _, _, _, _, _, _, _, _, _, _, _, rfl, _⟩ := h; rfl)
      | (obtain ⟨_, _, _, _, _, _, _, _, _, _, _, _, _, _, _, rfl, _⟩ := h; rfl)
      | (obtain ⟨_, _, _, _, _, _, _, _, _, _, _, _, _, _, _, _, rfl, _⟩ := h; rfl)
      | (obtain ⟨_, _, _, _, _, _, _, _, _, _, _, _, _, _, _, _, _, rfl, _⟩ := h; rfl)
      | (obtain ⟨_, _, _, _, _, _, _, _, _, _, _, _, _, _, _, _, _, _, rfl, _⟩ := h; rfl)
      | (obtain ⟨_, _, _, _, _, _, _, _, _, _, _, _, _, _, _, _, _, _, _, rfl, _⟩ := h; rfl)
  · obtain ⟨st, md, p, n, w, rfl, B, k⟩ := h
    obtain ⟨_, _, _, hst⟩ := B.ins
    have hm := B.m.hm
    have l7 := B.l7
    have ev := B.ev
    have cl_Memory := T.cl_Memory
    have na_Memory_pairs := T.na_Memory_pairs
    have na_Memory_wide := T.na_Memory_wide
    have cl_Ties := T.cl_Ties
    have na_Ties_near := T.na_Ties_near
    have na_Ties_own_ever := T.na_Ties_own_ever
    have na_Ties_own_living := T.na_Ties_own_living
    have cl_Store := T.cl_Store
    have na_Store_kept_by_world := T.na_Store_kept_by_world
    have na_Store_own_size := T.na_Store_own_size
    have na_Store_own_ties := T.na_Store_own_ties
    refine ⟨_, (pss_cons (ps_if (PW.pt (pw_or (pt_cmpR (k_ne (K := K) rfl hr.r.units) (dm0 T.cl_Store T.me_Store_living (ok_Store_living T) (hr.mono (by decide)) T.b_Store_living passL (pv 1)) (pe_dget (u1 hr.r.units) (pv 2) pe_str (fun _ _ => rfl)) (nomark _)) (pw_or (pt_cmpR (k_ne (K := K) rfl hr.r.units) (pe_callB (k_lenM (K := K) rfl T.me_Store_len (ok_Store_len T) (hr.mono (by decide)) T.b_Store_len passL) (by rfl) T.n_len (by decide +kernel) (pa_cons (pv 1) pa_nil)) (pe_callB (k_len (K := K) rfl) (by rfl) T.n_len (by decide +kernel) (pa_cons (pe_dget (u1 hr.r.units) (pv 2) pe_str (fun _ _ => rfl)) pa_nil)) (nomark _)) (pw_or1 (pt_cmpR (k_ne (K := K) rfl hr.r.units) (dm0 T.cl_Store T.me_Store_size (ok_Store_size T) (hr.mono (by decide)) T.b_Store_size passL (pv 1)) (pe_dget (u1 hr.r.units) (pv 2) pe_str (fun _ _ => rfl)) (nomark _)))))) (pss_one (ps_ret pe_bl)) pss_nil)
      (pss_cons (ps_set (i := 3) sc_law_stands.nd rfl (Or.inl rfl) (dm0 T.cl_Store T.me_Store_ties (ok_Store_ties T) (hr.mono (by decide)) T.b_Store_ties passL (pv 1)))
      (pss_cons (ps_if (pt_cmpR (k_ne (K := K) rfl hr.r.units) (pe_lst (pa_cons (dm0 T.cl_Ties T.me_Ties_ever (ok_Ties_ever T) (hr.mono (by decide)) T.b_Ties_ever passL (pv 3)) (pa_cons (dm0 T.cl_Ties T.me_Ties_living (ok_Ties_living T) (hr.mono (by decide)) T.b_Ties_living passL (pv 3)) (pa_cons (dm0 T.cl_Ties T.me_Ties_free (ok_Ties_free T) (hr.mono (by decide)) T.b_Ties_free passL (pv 3)) pa_nil)))) (pe_lst (pa_cons (pe_dget (u1 hr.r.units) (pv 2) pe_str (fun _ _ => rfl)) (pa_cons (pe_dget (u1 hr.r.units) (pv 2) pe_str (fun _ _ => rfl)) (pa_cons (d1 (ok_law_loose T) (hr.mono (by decide)) (by rfl) T.m_law_loose T.F_law_loose.kp T.b_law_loose passL (pa_cons (pv 2) pa_nil)) pa_nil)))) (nomark _)) (pss_one (ps_ret pe_bl)) pss_nil)
      (pss_cons (ps_if (pt_cmpR (k_ne (K := K) rfl hr.r.units) (dm0 T.cl_Ties T.me_Ties_rows (ok_Ties_rows T) (hr.mono (by decide)) T.b_Ties_rows passL (pv 3)) (d1 (ok_law_pairs T) (hr.mono (by decide)) (by rfl) T.m_law_pairs T.F_law_pairs.kp T.b_law_pairs passL (pa_cons (pv 2) pa_nil)) (nomark _)) (pss_one (ps_ret pe_bl)) pss_nil)
      (pss_cons (ps_for (passes_of rfl) rfl (k_plist (K := K) rfl (pe_dget (u1 hr.r.units) (pv 2) pe_str (fun _ _ => rfl))) (pg_name (i := 4) sc_law_stands.nd rfl (Or.inl rfl))
      (pss_cons (ps_set (i := 5) sc_law_stands.nd rfl (Or.inl rfl) (pe_dget (u1 hr.r.units) (pe_dget (u1 hr.r.units) (pv 2) pe_str (fun _ _ => rfl)) (pv 4) (fun _ _ => rfl)))
      (pss_cons (ps_set (i := 6) sc_law_stands.nd rfl (Or.inl rfl) (pe_callB (c_min2 rfl) (by rfl) T.n_min (by decide +kernel) (pa_cons (d1 (ok_law_spot T) (hr.mono (by decide)) (by rfl) T.m_law_spot T.F_law_spot.kp T.b_law_spot passL (pa_cons (pv 0) (pa_cons (pv 2) pa_nil))) (pa_cons (pe_op op_sub (pe_dget (u1 hr.r.units) (pv 2) pe_str (fun _ _ => rfl)) pe_int) pa_nil))))
      (pss_cons (ps_if (pt_cmpR (k_ne (K := K) rfl hr.r.units) (pe_callB (k_repr (K := K) rfl hr.g hr.r.units) (by rfl) T.n_repr (by decide +kernel) (pa_cons (dm0 T.cl_Memory T.me_Memory_runs (ok_Memory_runs T) (hr.mono (by decide)) T.b_Memory_runs passL (dm T.cl_Store T.me_Store_memory (ok_Store_memory T) (hr.mono (by decide)) T.b_Store_memory passL (pv 1) (pa_cons (pv 4) pa_nil))) pa_nil)) (pe_callB (k_repr (K := K) rfl hr.g hr.r.units) (by rfl) T.n_repr (by decide +kernel) (pa_cons (pv 5) pa_nil)) (nomark _)) (pss_one (ps_ret pe_bl)) pss_nil)
      (pss_one (ps_if (pt_cmpR (k_ne (K := K) rfl hr.r.units) (pe_callB (k_repr (K := K) rfl hr.g hr.r.units) (by rfl) T.n_repr (by decide +kernel) (pa_cons (dm T.cl_Store T.me_Store_at (ok_Store_at T) (hr.mono (by decide)) T.b_Store_at passL (pv 1) (pa_cons (pv 4) (pa_cons (pv 6) pa_nil))) pa_nil)) (pe_callB (k_repr (K := K) rfl hr.g hr.r.units) (by rfl) T.n_repr (by decide +kernel) (pa_cons (pe_ix (k_ix (K := K) rfl) (pe_ix (k_ix (K := K) rfl) (d1 (ok_law_part T) (hr.mono (by decide)) (by rfl) T.m_law_part T.F_law_part.kp T.b_law_part passL (pa_cons (pv 5) (pa_cons (pv 6) (pa_cons (pe_op (k_add (K := K) rfl) (pv 6) pe_int) pa_nil)))) pe_int (fun _ _ => rfl)) pe_int (fun _ _ => rfl)) pa_nil)) (nomark _)) (pss_one (ps_ret pe_bl)) pss_nil))))))
      (pss_one (ps_ret pe_bl))))))), ?_⟩
    dsimp only [cxOf, st_1, st_2, st_3, st_4, st_5, st_6, List.length_cons, List.length_nil, List.replicate_succ, List.replicate_zero, Nat.reduceAdd, Nat.reduceSub]
    walk_at "gs"
    refine ⟨st, w.own, n, w.ever, w.liv, w.ks, w.nb, w.c, rfl, B.s, fun R fR => ?_⟩
    have k1 := Kp.new (ws := []) (o := HO.lst (w.liv.map V.int)) fR
    have hR : (upd H R (.lst (w.liv.map V.int))) R = some (.lst (w.liv.map V.int)) := upd_same
    have B1 := B.kp0 k1
    obtain ⟨H1, e1⟩ : ∃ H1, H1 = upd H R (.lst (w.liv.map V.int)) := ⟨_, rfl⟩
    rw [← e1] at k1 hR B1 ⊢
    have hm1 := B1.m.hm
    have hl1 := B1.m.hl
    obtain ⟨_, _, _, hst1⟩ := B1.ins
    walk_at "gs"
    refine ne_ints (l := w.liv) (r := w.liv) (SqL.of hR) (SqL.of hl1) ?_
    walk_at "gs"
    refine i_decN (fun c => absurd rfl c) (fun _ => ?_)
    walk_at "gs"
    refine i_lenM hst1 ⟨st, w.own, n, w.ever, w.liv, w.ks, w.nb, w.c, rfl, B1.s, by omega, _, rfl, by omega, ?_⟩
    walk_at "gs"
    rw [List.length_map]
    refine i_decN (fun c => absurd rfl c) (fun _ => ?_)
    walk_at "gs"
    refine ⟨st, w.own, n, w.ever, w.liv, w.ks, w.nb, w.c, rfl, B1.s, ?_⟩
    walk_at "gs"
    refine i_decN (fun c => absurd rfl c) (fun _ => ?_)
    walk_at "gs"
    refine ⟨w.D, st, w.own, n, w.ever, w.liv, w.ks, w.nb, w.c, rfl, B1.s, B1.zs, by omega, fun t2 ps2 nb2 H2 ft2 fps2 k2 x2 z2 => ?_⟩
    have B2 := B1.kp0 k2
    obtain ⟨_, _, _, ht2⟩ := x2.ins
    walk_at "gs"
    refine ⟨t2, ps2, w.ever, w.liv, w.ks, nb2, rfl, x2, ?_⟩
    walk_at "gs"
    refine ⟨t2, ps2, w.ever, w.liv, w.ks, nb2, rfl, x2, fun R2 fR2 => ?_⟩
    have k3 := Kp.new (ws := []) (o := HO.lst (w.liv.map V.int)) fR2
    have hR2 : (upd H2 R2 (.lst (w.liv.map V.int))) R2 = some (.lst (w.liv.map V.int)) := upd_same
    have B3 := B2.kp0 k3
    have x3 := x2.kp0 k3
    obtain ⟨H3, e3⟩ : ∃ H3, H3 = upd H2 R2 (.lst (w.liv.map V.int)) := ⟨_, rfl⟩
    rw [← e3] at k3 hR2 B3 x3 ⊢
    obtain ⟨_, _, _, ht3⟩ := x3.ins
    have kl3 := B.zs.klen
    walk_at "gs"
    refine ⟨t2, ps2, w.ever, w.liv, w.ks, nb2, rfl, x3, by omega, fun R3 fs H4 fR3 k4 hR3 fo4 => ?_⟩
    have B4 := B3.kp0 k4
    have x4 := x3.kp0 k4
    have hR4 := k4.at_ _ _ hR2 not_nil
    walk_at "gs"
    refine i_new fun L1 fL1 => ?_
    have k5 := Kp.new (ws := []) (o := HO.lst [V.int w.ever, V.ref R2, V.ref R3]) fL1
    have hL1 : (upd H4 L1 (.lst [V.int w.ever, V.ref R2, V.ref R3])) L1 = some (.lst [V.int w.ever, V.ref R2, V.ref R3]) := upd_same
    have B5 := B4.kp0 k5
    have x5 := x4.kp0 k5
    have hR5 := k5.at_ _ _ hR4 not_nil
    have hF5 := k5.at_ _ _ hR3 not_nil
    obtain ⟨H5, e5⟩ : ∃ H5, H5 = upd H4 L1 (.lst [V.int w.ever, V.ref R2, V.ref R3]) := ⟨_, rfl⟩
    rw [← e5] at k5 hL1 B5 x5 hR5 hF5 ⊢
    have hm5 := B5.m.hm
    have km5 := B5.zm.klen
    rw [List.length_map] at km5
    walk_at "gs"
    refine ⟨md, w.L, w.N, w.R, w.rep, w.rw, n, w.ever, w.liv, w.nbm, w.c, rfl, B5.m, by omega, fun R6 fs6 H6 fR6 k6 hR6 fo6 => ?_⟩
    have B6 := B5.kp0 k6
    have x6 := x5.kp0 k6
    obtain rfl := same_free z2 B.zm fo4 fo6
    walk_at "gs"
    refine i_new fun L2 fL2 => ?_
    have k7 := Kp.new (ws := []) (o := HO.lst [V.int w.ever, V.ref w.L, V.ref R6]) fL2
    have hL2 : (upd H6 L2 (.lst [V.int w.ever, V.ref w.L, V.ref R6])) L2 = some (.lst [V.int w.ever, V.ref w.L, V.ref R6]) := upd_same
    have B7 := B6.kp0 k7
    have x7 := x6.kp0 k7
    have k57 := Kp.trans k6 k7
    have hL17 := k57.at_ _ _ hL1 not_nil
    have hR7 := k57.at_ _ _ hR5 not_nil
    have hF7 := k57.at_ _ _ hF5 not_nil
    have hG7 := k7.at_ _ _ hR6 not_nil
    obtain ⟨H7, e7⟩ : ∃ H7, H7 = upd H6 L2 (.lst [V.int w.ever, V.ref w.L, V.ref R6]) := ⟨_, rfl⟩
    rw [← e7] at k7 hL2 B7 x7 hL17 hR7 hF7 hG7 ⊢
    walk_at "gs"
    refine ne_same (dp_three hL17 hR7 hF7) (dp_three hL2 B7.m.hl hG7) shaped_three ?_
    have k07 : Kp [] H H7 := Kp.trans k1 (Kp.trans k2 (Kp.trans k3 (Kp.trans k4 (Kp.trans k5 (Kp.trans k6 k7)))))
    obtain ⟨_, _, _, ht7⟩ := x7.ins
    have hm7 := B7.m.hm
    walk_at "gs"
    refine ⟨w.D, t2, ps2, w.ever, w.liv, w.ks, nb2, rfl, x7, z2, by omega, fun R8 rs H8 fR8 k8 hR8 ro8 => ?_⟩
    have B8 := B7.kp0 k8
    walk_at "gs"
    refine ⟨w.D, md, w.L, w.N, w.R, w.rep, w.rw, n, w.ever, w.liv, w.nbm, w.c, rfl, B8.m, B8.zm, by omega, fun R9 rs9 H9 fR9 k9 hR9 ro9 => ?_⟩
    obtain rfl := same_rows z2 B.zm ro8 ro9
    have B9 := B8.kp0 k9
    walk_at "gs"
    refine ne_same ((hR8.kp k9 (imms_d2 _) not_nil).dp) hR9.dp (shaped_pairs _) ?_
    have k09 : Kp [] H H9 := Kp.trans k07 (Kp.trans k8 k9)
    have hm9 := B9.m.hm
    walk_at "gs"
    have hl9 : SqL K H9 w.L (w.liv.map V.int) := SqL.of B9.m.hl
    have nLp : w.L ≠ p := fun e => B.pm (by rw [← e]; exact ownM_L)
    refine i_each hl9 (fun i σ H' => ∃ o4 o5 o6 : Option V, σ = [some (.ref p), some (.ref st), some (.ref md), some (.ref t2), o4, o5, o6] ∧ Kp [p] H H' ∧ Both K T.c_Memory T.c_Ties T.c_Store H' st md p n w) ?_ ?_ ?_ ?_
    · exact ⟨_, _, _, rfl, k09.wide, B9⟩
    · rintro i σ H' _ ⟨_, _, _, _, _, h⟩
      exact SqL.of h.m.hl
    · rintro i y σ H' hy ⟨o4, o5, o6, rfl, kk, B'⟩
      obtain ⟨u, hu, rfl⟩ := map_get hy
      have hu := List.mem_of_getElem? hu
      have hm' := B'.m.hm
      obtain ⟨r, hrw, _, hrv⟩ := B'.row hu
      obtain ⟨cn, cf, co⟩ := B'.cl u hu
      obtain ⟨cl1, cl2⟩ := B'.len hu
      have ne : w.liv ≠ [] := fun e => by
        rw [e] at hu
        cases hu
      walk_at "gs"
      refine i_dg B'.m.hr hrv ?_
      walk_at "gs"
      refine B'.spot ne (fun v H10 v0 v1 hp10 k10 B10 => ?_)
      have hm10 := B10.m.hm
      obtain ⟨_, _, _, hst10⟩ := B10.ins
      have n1 := B10.n1
      walk_at "gs"
      refine ⟨st, w.own, n, w.ever, w.liv, w.ks, w.nb, w.c, u, rfl, B10.s, B10.pos hu, B10.zs.nl, hu, B10.len hu, B10.few hu, fun m2 H11 fm2 k11 M2 o2 => ?_⟩
      obtain ⟨dx2, l2, hm2, _⟩ := id M2
      have B11 := B10.kp0 k11
      walk_at "gs"
      refine ⟨m2, w.c u, rfl, M2, fun l3 H12 fl3 k12 ld3 => ?_⟩
      have B12 := B11.kp0 k12
      have okr := ok_runs co cl2
      walk_at "gs"
      refine repr_pairs ld3.dp okr (by omega) ?_
      walk_at "gs"
      refine repr_pairs (B12.m.rr _ hrw).1.dp okr (by show (rle (w.c u)).length ≤ 4000; omega) ?_
      walk_at "gs"
      refine i_decN (fun c => absurd rfl c) (fun _ => ?_)
      obtain ⟨_, _, _, hst12⟩ := B12.ins
      obtain ⟨a, rfl⟩ := Int.eq_ofNat_of_zero_le (show 0 ≤ v from v0)
      obtain ⟨b, hb⟩ : ∃ b : Nat, min (a : Int) (n - 1) = b := ⟨(min (a : Int) (n - 1)).toNat, by omega⟩
      rw [hb]
      have hbl : b < (w.c u).length := by omega
      have hv : (w.c u)[b]? = some (w.c u)[b] := List.getElem?_eq_getElem hbl
      have okv := okI_M (co _ (List.getElem_mem hbl))
      walk_at "gs"
      refine ⟨st, w.own, n, w.ever, w.liv, w.ks, w.nb, w.c, u, b, (w.c u)[b], rfl, B12.s, B12.pos hu, B12.zs.nl, hu, B12.few hu, hv, fun H13 k13 => ?_⟩
      have B13 := B12.kp0 k13
      walk_at "gs"
      refine repr_int okv ?_
      walk_at "gs"
      refine ⟨r, b, b + 1, rle (w.c u), rfl, (B13.m.rr _ hrw).1.dp, by omega, fun l4 H14 fl4 k14 ld4 => ?_⟩
      have B14 := B13.kp0 k14
      rw [cut_at hv] at ld4
      obtain ⟨us, hus, aus⟩ := ld4
      cases aus
      rename_i y1 ys1 hy1 hys1
      cases hys1
      obtain ⟨t4, rfl, ht4⟩ := dp_pair hy1
      walk_at "gs"
      refine repr_int okv ?_
      walk_at "gs"
      refine i_decN (fun c => absurd rfl c) (fun _ => ?_)
      walk_at "gs"
      exact ⟨_, _, _, rfl, Kp.trans kk (Kp.trans k10 (Kp.trans k11 (Kp.trans k12 (Kp.trans k13 k14))).wide), B14⟩
    rintro σ H' ⟨o4, o5, o6, rfl, kk, B'⟩
    walk_at "gs"
    exact k H' (fx_kp kk fx_refl) B'

theorem i_isIf {c : TT} {s1 s2 : TS} {D : Ends} {σ : L2.St} {H : Hp} (h : tIfS c s1 s2 D σ H) : tIfS c s1 s2 D σ H := h
theorem i_cutIf {c : TT} {s1 s2 : TS} {D : Ends} {σ : L2.St} {H : Hp} (P : L2.St → Hp → Prop) (k : ∀ σ' H', P σ' H' → D.nx σ' H') (h : ∀ D' : Ends, (∀ σ' H', P σ' H' → D'.nx σ' H') → tIfS c s1 s2 D' σ H) : tIfS c s1 s2 D σ H := h D k
--%%M
local macro_rules | `(tactic| walk_at "gi") => `(tactic| repeat ((fail_if_success (with_reducible apply i_isIf)); (walk_at "g1")))
--%%E

def sp_lown (K : PySem.W.Frag) (CM CT CS : Addr) : Sp := fun vs H Q _ => ∃ (st md p : Addr) (n : Int) (w : Wd), vs = [.ref p, .ref st, .ref md] ∧ Both K CM CT CS H st md p n w ∧ ∀ H', Fx H H' → Both K CM CT CS H' st md p n w → Q (.bl true) H'
theorem Both.apart {K : PySem.W.Frag} {CM CT CS : Addr} {H : Hp} {st md p : Addr} {n : Int} {w : Wd} (B : Both K CM CT CS H st md p n w) {ps : List Addr} (f : ∀ b ∈ ps, Fr H b) : ∀ b ∈ ps, b ∉ w.own ∧ b ∉ ownM md w.L w.N w.R w.rep ∧ ∀ q ∈ w.rw, q.2 ≠ b := fun b hb => by
  obtain ⟨a1, a2, _, a3⟩ := B.fr (f b hb)
  exact ⟨a1, a2, a3⟩
theorem sc_law_own : FnScope ["_law_pot_here", "_law_store", "_law_model_here", "_law_told"] ["_law_pot_here", "_law_store", "_law_model_here"] (defScope s_law_own) :=
  ⟨rfl, rfl, rfl, by decide +kernel, rfl, by decide +kernel, by decide +kernel⟩
theorem ok_law_own {P : Program} {w : World} {K : PySem.W.Frag} {mg : Str → Option Value} {base : Heap} (T : Txt K mg) :
    FnG P w K mg base 11 T.a_law_own T.d_law_own ["_law_pot_here", "_law_store", "_law_model_here"] (sp_lown K T.c_Memory T.c_Ties T.c_Store) := by
  refine okD T.F_law_own sc_law_own (fun vs H Q E h => ?_) (fun cdv A outer s H vs Q E hr h => ?_)
  · first
      | (obtain ⟨_, rfl, _⟩ := h; rfl)
      | (obtain ⟨_, _, rfl, _⟩ := h; rfl)
      | (obtain ⟨_, _, _, rfl, _⟩ := h; rfl)
      | (obtain ⟨_, _, _, _, rfl, _⟩ := h; rfl)
      | (obtain ⟨_, _, _, _, _, rfl, _⟩ := h; rfl)
      | (obtain ⟨_, _, _, _, _, _, rfl, _⟩ := h; rfl)
      | (obtain ⟨_, _, _, _, _, _, _, rfl, _⟩ := h; rfl)
      | (obtain ⟨_, _, _, _, _, _, _, _, rfl, _⟩ := h; rfl)
      | (obtain ⟨_, _, _, _, _, _, _, _, _, rfl, _⟩ := h; rfl)
      | (obtain ⟨_, _, _, _, _, _, _, _, _, _, rfl, _⟩ := h; rfl)
      | (obtain ⟨_, _, _, _, _, _, _, _, _, _, _, rfl, _⟩ := h; rfl)
      | (obtain ⟨_, _, _, _, _, _, _, _, _, _, _, _, rfl, _⟩ := h; rfl)
      | (obtain ⟨_, _, _, _, _, _, _, _, _, _, _, _, _, rfl, _⟩ := h; rfl)
      | (obtain ⟨_, _, _, _, _, _, _, _, _, _, _, _, _, _, rfl, _⟩ := h; rfl)
      | (obtain ⟨_, _, _, _, _, _, _, _, _, _, _, _, _, _, _, rfl, _⟩ := h; rfl)
      | (obtain ⟨_, _, _, _, _, _, _, _, _, _, _, _, _, _, _, _, rfl, _⟩ := h; rfl)
      | (obtain ⟨_, _, _, _, _, _, _, _, _, _, _, _, _, _, _, _, _, rfl, _⟩ := h; rfl)
      | (obtain ⟨_, _, _, _, _, _, _, _, _, _, _, _, _, _, _, _, _, _, rfl, _⟩ := h; rfl)
      | (obtain ⟨_, _, _, _, _, _, _, _, _, _, _, _, _, _, _, _, _, _, _, rfl, _⟩ := h; rfl)
  · obtain ⟨st, md, p, n, w, rfl, B, k⟩ := h
    obtain ⟨_, _, _, hst⟩ := B.ins
    have l7 := B.l7
    have ev := B.ev
    have cl_Memory := T.cl_Memory
    have na_Memory_pairs := T.na_Memory_pairs
    have na_Memory_wide := T.na_Memory_wide
    have cl_Ties := T.cl_Ties
    have na_Ties_near := T.na_Ties_near
    have na_Ties_own_ever := T.na_Ties_own_ever
    have na_Ties_own_living := T.na_Ties_own_living
    have cl_Store := T.cl_Store
    have na_Store_kept_by_world := T.na_Store_kept_by_world
    have na_Store_own_size := T.na_Store_own_size
    have na_Store_own_ties := T.na_Store_own_ties
    refine ⟨_, (pss_cons (ps_set (i := 3) sc_law_own.nd rfl (Or.inl rfl) (pe_lst (pa_cons (dm0 T.cl_Store T.me_Store_ties (ok_Store_ties T) (hr.mono (by decide)) T.b_Store_ties passL (pv 1)) (pa_cons (dm0 T.cl_Store T.me_Store_living (ok_Store_living T) (hr.mono (by decide)) T.b_Store_living passL (pv 1)) pa_nil))))
      (pss_cons (ps_if (pt_cmpR (k_ne (K := K) rfl hr.r.units) (pe_dget (u1 hr.r.units) (pv 2) pe_str (fun _ _ => rfl)) (pe_lst pa_nil) (nomark _)) (pss_cons (ps_expr (dm T.cl_Ties T.me_Ties_fork (ok_Ties_fork T) (hr.mono (by decide)) T.b_Ties_fork passL (pe_ix (k_ix (K := K) rfl) (pv 3) pe_int (fun _ _ => rfl)) (pa_cons (pe_ix (k_ix (K := K) rfl) (pe_dget (u1 hr.r.units) (pv 2) pe_str (fun _ _ => rfl)) pe_int (fun _ _ => rfl)) pa_nil)))
      (pss_cons (ps_expr (dm T.cl_Ties T.me_Ties_end (ok_Ties_end T) (hr.mono (by decide)) T.b_Ties_end passL (pe_ix (k_ix (K := K) rfl) (pv 3) pe_int (fun _ _ => rfl)) (pa_cons (pe_ix (k_ix (K := K) rfl) (pe_dget (u1 hr.r.units) (pv 2) pe_str (fun _ _ => rfl)) (pe_un un_neg pe_int) (fun _ _ => rfl)) pa_nil)))
      (pss_one (ps_expr (dm T.cl_Memory T.me_Memory_fill (ok_Memory_fill T) (hr.mono (by decide)) T.b_Memory_fill passL (dm T.cl_Store T.me_Store_memory (ok_Store_memory T) (hr.mono (by decide)) T.b_Store_memory passL (pv 1) (pa_cons (pe_ix (k_ix (K := K) rfl) (pe_dget (u1 hr.r.units) (pv 2) pe_str (fun _ _ => rfl)) pe_int (fun _ _ => rfl)) pa_nil)) (pa_cons pe_int (pa_cons (pe_dget (u1 hr.r.units) (pv 2) pe_str (fun _ _ => rfl)) (pa_cons pe_int pa_nil)))))))) pss_nil)
      (pss_cons (ps_expr (pe_bm PySem.F.plainAttrs_list PySem.F.slot_list_append PySem.F.type_list_append mt_append (pe_ix (k_ix (K := K) rfl) (pv 3) pe_int (fun _ _ => rfl)) (pa_cons pe_int pa_nil)))
      (pss_one (ps_ret (d1 (ok_law_stands T) (hr.mono (by decide)) (by rfl) T.m_law_stands T.F_law_stands.kp T.b_law_stands passL (pa_cons (pv 0) (pa_cons (pv 1) (pa_cons (pv 2) pa_nil))))))))), ?_⟩
    dsimp only [cxOf, st_1, st_2, st_3, st_4, st_5, st_6, List.length_cons, List.length_nil, List.replicate_succ, List.replicate_zero, Nat.reduceAdd, Nat.reduceSub]
    walk_at "gs"
    refine ⟨w.D, st, w.own, n, w.ever, w.liv, w.ks, w.nb, w.c, rfl, B.s, B.zs, by omega, fun t2 ps2 nb2 H1 ft2 fps2 k1 x1 z1 => ?_⟩
    have B1 := B.kp0 k1
    obtain ⟨_, _, _, hst1⟩ := B1.ins
    walk_at "gs"
    refine ⟨st, w.own, n, w.ever, w.liv, w.ks, w.nb, w.c, rfl, B1.s, fun R fR => ?_⟩
    have k2 := Kp.new (ws := []) (o := HO.lst (w.liv.map V.int)) fR
    have hR : (upd H1 R (.lst (w.liv.map V.int))) R = some (.lst (w.liv.map V.int)) := upd_same
    have B2 := B1.kp0 k2
    have x2 := x1.kp0 k2
    have nR2 : R ∉ ps2 := x1.fr fR
    have aR := B1.fr fR
    obtain ⟨H2, e2⟩ : ∃ H2, H2 = upd H1 R (.lst (w.liv.map V.int)) := ⟨_, rfl⟩
    rw [← e2] at k2 hR B2 x2 ⊢
    walk_at "gs"
    refine i_new fun L1 fL1 => ?_
    have k3 := Kp.new (ws := []) (o := HO.lst [V.ref t2, V.ref R]) fL1
    have hL1 : (upd H2 L1 (.lst [V.ref t2, V.ref R])) L1 = some (.lst [V.ref t2, V.ref R]) := upd_same
    have B3 := B2.kp0 k3
    have x3 := x2.kp0 k3
    have hR3 := k3.at_ _ _ hR not_nil
    have nL2 : L1 ∉ ps2 := x2.fr fL1
    have aL := B2.fr fL1
    obtain ⟨H3, e3⟩ : ∃ H3, H3 = upd H2 L1 (.lst [V.ref t2, V.ref R]) := ⟨_, rfl⟩
    rw [← e3] at k3 hL1 B3 x3 hR3 ⊢
    have f3 : Fx H H3 := fx_kp k3 (fx_kp k2 (fx_kp k1 fx_refl))
    with_reducible refine i_seq ?_
    with_reducible refine i_cutIf (fun σ' H' => σ' = [some (.ref p), some (.ref st), some (.ref md), some (.ref L1)] ∧ Fx H H' ∧ Both K T.c_Memory T.c_Ties T.c_Store H' st md p n w ∧ H' L1 = some (.lst [V.ref t2, V.ref R]) ∧ H' R = some (.lst (w.liv.map V.int))) ?_ (fun D' go => ?_)
    · rintro σ' H' ⟨rfl, f', B', hL', hR'⟩
      walk_at "gs"
      refine i_app hR' (small_sz (by rw [List.length_map]; omega)) ?_
      have k' : Kp [R] H' (upd H' R (.lst (w.liv.map V.int ++ [V.int 99]))) := kp_set hR' (fun z => z)
      have B'' := B'.kp k' (B'.pot.kp k' (not_one (Ne.symm aR.2.2.1))) fun b hb => by
        rw [List.mem_singleton.mp hb]
        exact ⟨aR.1, aR.2.1, aR.2.2.2⟩
      walk_at "gs"
      exact ⟨st, md, p, n, w, rfl, B'', fun H5 f5 B5 => k H5 (fx_trans (fx_kp k' f') f5) B5⟩
    · have hm3 := B3.m.hm
      walk_at "gs"
      refine i_new fun q fq => ?_
      have k4 : Kp [] H3 (upd H3 q (.lst [])) := Kp.new fq
      have B4 := B3.kp0 k4
      have x4 := x3.kp0 k4
      have hL4 := k4.at_ _ _ hL1 not_nil
      have hR4 := k4.at_ _ _ hR3 not_nil
      have f4 := fx_kp k4 f3
      have hq : (upd H3 q (.lst [])) q = some (.lst []) := upd_same
      obtain ⟨H4, e4⟩ : ∃ H4, H4 = upd H3 q (.lst []) := ⟨_, rfl⟩
      rw [← e4] at k4 B4 x4 hL4 hR4 f4 hq ⊢
      walk_at "gs"
      refine ne_ints0 (SqL.of B4.m.hl) hq ?_
      walk_at "gs"
      refine i_decN (fun ne => ?_) (fun _ => ?_)
      · obtain ⟨u0, tl, eu⟩ := List.exists_cons_of_ne_nil ne
        obtain ⟨fr, z, ez⟩ := list_last ne
        have hu0 : u0 ∈ w.liv := by rw [eu]; exact List.mem_cons_self
        have hz : z ∈ w.liv := by rw [ez]; exact List.mem_append.mpr (.inr (List.mem_singleton.mpr rfl))
        have hm4 := B4.m.hm
        obtain ⟨_, _, _, ht4⟩ := x4.ins
        have hl4 : H4 w.L = some (.lst (V.int u0 :: tl.map V.int)) := by rw [B4.m.hl, eu]; rfl
        walk_at "gs"
        refine ⟨w.D, t2, ps2, w.ever, w.liv, w.ks, nb2, u0, rfl, x4, z1, by omega, hu0, fun ps5 H5 k5 g5 x5 z5 => ?_⟩
        have B5 := B4.kp k5 (B4.pot.kp k5 fun h => by
          have := B.fr (fps2 p h)
          exact this.2.2.1 rfl) (B.apart fps2)
        have hL5 := k5.at_ _ _ hL4 nL2
        have hR5 := k5.at_ _ _ hR4 nR2
        have hm5 := B5.m.hm
        obtain ⟨_, _, _, ht5⟩ := x5.ins
        have hl5 : H5 w.L = some (.lst (fr.map V.int ++ [V.int z])) := by rw [B5.m.hl, ez, List.map_append]; rfl
        have a5 : ∀ b ∈ ps5, b ∉ w.own ∧ b ∉ ownM md w.L w.N w.R w.rep ∧ ∀ q ∈ w.rw, q.2 ≠ b := fun b hb => by
          rcases g5 b hb with h | h
          · exact B.apart fps2 b h
          · obtain ⟨a1, a2, _, a3⟩ := B4.fr h
            exact ⟨a1, a2, a3⟩
        have p5 : p ∉ ps5 := g5.nin (tr_pot B4.pot) fun h => (B.fr (fps2 p h)).2.2.1 rfl
        have nL5 : L1 ∉ ps5 := g5.nin (tr_of hL4) nL2
        have nR5 : R ∉ ps5 := g5.nin (tr_of hR4) nR2
        walk_at "gs"
        refine ⟨_, t2, ps5, _, _, _, _, z, rfl, x5, z5, by omega, List.mem_append.mpr (.inl hz), fun R6 went ps6 ks6 nb6 H6 fR6 nR6 k6 g6 x6 z6 hR6 pw6 pm6 => ?_⟩
        have B6 := B5.kp k6 (B5.pot.kp k6 p5) a5
        have hL6 := k6.at_ _ _ hL5 nL5
        have hR6' := k6.at_ _ _ hR5 nR5
        have hm6 := B6.m.hm
        obtain ⟨_, _, _, hst6⟩ := B6.ins
        have hl6 : H6 w.L = some (.lst (V.int u0 :: tl.map V.int)) := by rw [B6.m.hl, eu]; rfl
        have n1 := B6.n1
        have cn := (B6.cl u0 hu0).1
        walk_at "gs"
        refine ⟨st, w.own, n, w.ever, w.liv, w.ks, w.nb, w.c, u0, rfl, B6.s, B6.pos hu0, B6.zs.nl, hu0, B6.len hu0, B6.few hu0, fun m7 H7 fm7 k7 M7 o7 => ?_⟩
        have B7 := B6.kp0 k7
        have hm7 := B7.m.hm
        obtain ⟨_, _, hmm7, _⟩ := id M7
        walk_at "gs"
        refine ⟨m7, 0, n, 7, w.c u0, rfl, M7, B7.few hu0, by omega, fun H8 k8 M8 o8 => ?_⟩
        have am := B6.fr fm7
        have B8 := B7.kp k8 (B7.pot.kp k8 (not_one (Ne.symm am.2.2.1))) fun b hb => by
          rw [List.mem_singleton.mp hb]
          exact ⟨am.1, am.2.1, am.2.2.2⟩
        have nLm : L1 ≠ m7 := fr_ne hL6 fm7
        have nRm : R ≠ m7 := fr_ne hR6' fm7
        walk_at "gs"
        exact go _ _ ⟨rfl, fx_kp k8 (fx_kp k7 (fx_kp k6 (fx_kp k5 f4))), B8, k8.at_ _ _ (k7.at_ _ _ hL6 not_nil) (not_one nLm), k8.at_ _ _ (k7.at_ _ _ hR6' not_nil) (not_one nRm)⟩
      · walk_at "gs"
        exact go _ _ ⟨rfl, f4, B4, hL4, hR4⟩

theorem setC_self {c : Int → List Int} {u : Int} : setC c u (c u) = c := funext fun x => by
  unfold setC
  by_cases h : x = u
  · rw [if_pos h, h]
  · rw [if_neg h]
theorem laid_put {cs : List Int} {v : Int} (h : cs[0]? = some v) : laid cs 0 [v] 1 = cs := by
  cases cs with
  | nil => cases h
  | cons a t =>
    cases h
    rfl
theorem laid_none {cs : List Int} {n : Nat} : laid cs n [] n = cs := by
  unfold laid
  rw [List.append_nil, List.take_append_drop]
theorem laid_all {cs : List Int} : laid cs 0 ((cs.drop 0).take cs.length) cs.length = cs := by
  unfold laid
  rw [List.take_zero, List.nil_append, List.drop_zero, List.take_length, List.drop_length, List.append_nil]
theorem Both.again {K : PySem.W.Frag} {CM CT CS : Addr} {H H' : Hp} {st md p : Addr} {n : Int} {w : Wd} (B : Both K CM CT CS H st md p n w) {u : Int} {cs : List Int} {own' : List Addr} (k : Kp w.own H H') (g : Grow H w.own own') (e : cs = w.c u) (S : StoreAt K CM CT CS H' st own' n w.ever w.liv w.ks w.nb (setC w.c u cs)) :
    Both K CM CT CS H' st md p n { w with own := own' } := by
  rw [e, setC_self] at S
  have nin : ∀ {b : Addr}, Tr H b → b ∉ w.own → b ∉ own' := fun {b} t h => g.nin t h
  exact ⟨S, B.m.kp k (fun b hb z => B.ap b z hb) B.ar, B.kr, B.zs, B.zm, fun b hb z => nin (B.tm b z) (fun h => B.ap b h z) hb, fun q hq => nin (B.m.rtr hq) (B.ar q hq), B.cl, B.n1, B.ev, B.l7, B.pot.kp k B.ps, nin (tr_pot B.pot) B.ps, B.pm, B.pr⟩
def sp_lnothing (K : PySem.W.Frag) (CM CT CS : Addr) : Sp := fun vs H Q _ => ∃ (st md p : Addr) (n : Int) (w : Wd), vs = [.ref st, .ref md] ∧ Both K CM CT CS H st md p n w ∧ ∀ w' H', Fx H H' → Both K CM CT CS H' st md p n w' → Q (.bl true) H'
theorem sc_law_nothing_told : FnScope ["_law_store", "_law_model_here", "_law_being", "_law_row", "_law_wide_here", "_law_number_here", "_law_told"] ["_law_store", "_law_model_here"] (defScope s_law_nothing_told) :=
  ⟨rfl, rfl, rfl, by decide +kernel, rfl, by decide +kernel, by decide +kernel⟩
theorem ok_law_nothing_told {P : Program} {w : World} {K : PySem.W.Frag} {mg : Str → Option Value} {base : Heap} (T : Txt K mg) :
    FnG P w K mg base 10 T.a_law_nothing_told T.d_law_nothing_told ["_law_store", "_law_model_here"] (sp_lnothing K T.c_Memory T.c_Ties T.c_Store) := by
  refine okD T.F_law_nothing_told sc_law_nothing_told (fun vs H Q E h => ?_) (fun cdv A outer s H vs Q E hr h => ?_)
  · first
      | (obtain ⟨_, rfl, _⟩ := h; rfl)
      | (obtain ⟨_, _, rfl, _⟩ := h; rfl)
      | (obtain ⟨_, _, _, rfl, _⟩ := h; rfl)
      | (obtain ⟨_, _, _, _, rfl, _⟩ := h; rfl)
      | (obtain ⟨_, _, _, _, _, rfl, _⟩ := h; rfl)
      | (obtain ⟨_, _, _, _, _, _, rfl, _⟩ := h; rfl)
      | (obtain ⟨_, _, _, _, _, _, _, rfl, _⟩ := h; rfl)
      | (obtain ⟨_, _, _, _, _, _, _, _, rfl, _⟩ := h; rfl)
      | (obtain ⟨_, _, _, _, _, _, _, _, _, rfl, _⟩ := h; rfl)
      | (obtain ⟨_, _, _, _, _, _, _, _, _, _, rfl, _⟩ := h; rfl)
      | (obtain ⟨_, _, _, _, _, _, _, _, _, _, _, rfl, _⟩ := h; rfl)
      | (obtain ⟨_, _, _, _, _, _, _, _, _, _, _, _, rfl, _⟩ := h; rfl)
      | (obtain ⟨_, _, _, _, _, _, _, _, _, _, _, _, _, rfl, _⟩ := h; rfl)
      | (obtain ⟨_, _, _, _, _, _, _, _, _, _, _, _, _, _, rfl, _⟩ := h; rfl)
      | (obtain ⟨_, _, _, _, _, _, _, _, _, _, _, _, _, _, _, rfl, _⟩ := h; rfl)
      | (obtain ⟨_, _, _, _, _, _, _, _, _, _, _, _, _, _, _, _, rfl, _⟩ := h; rfl)
      | (obtain ⟨_, _, _, _, _, _, _, _, _, _, _, _, _, _, _, _, _, rfl, _⟩ := h; rfl)
      | (obtain ⟨_, _, _, _, _, _, _, _, _, _, _, _, _, _, _, _, _, _, rfl, _⟩ := h; rfl)
      | (obtain ⟨_, _, _, _, _, _, _, _, _, _, _, _, _, _, _, _, _, _, _, rfl, _⟩ := h; rfl)
  · obtain ⟨st, md, p, n, w, rfl, B, k⟩ := h
    have hm := B.m.hm
    have cl_Memory := T.cl_Memory
    have na_Memory_pairs := T.na_Memory_pairs
    have na_Memory_wide := T.na_Memory_wide
    have cl_Ties := T.cl_Ties
    have na_Ties_near := T.na_Ties_near
    have na_Ties_own_ever := T.na_Ties_own_ever
    have na_Ties_own_living := T.na_Ties_own_living
    have cl_Store := T.cl_Store
    have na_Store_kept_by_world := T.na_Store_kept_by_world
    have na_Store_own_size := T.na_Store_own_size
    have na_Store_own_ties := T.na_Store_own_ties
    refine ⟨_, (pss_cons (ps_if (pt_cmpR (k_eq (K := K) rfl hr.r.units) (pe_dget (u1 hr.r.units) (pv 1) pe_str (fun _ _ => rfl)) (pe_lst pa_nil) (nomark _)) (pss_one (ps_ret pe_bl)) pss_nil)
      (pss_cons (ps_set (i := 2) sc_law_nothing_told.nd rfl (Or.inl rfl) (pe_ix (k_ix (K := K) rfl) (pe_dget (u1 hr.r.units) (pv 1) pe_str (fun _ _ => rfl)) (pe_un un_neg pe_int) (fun _ _ => rfl)))
      (pss_cons (ps_par (i := 3) (j := 4) (by rfl) sc_law_nothing_told.nd rfl rfl (by decide) rfl rfl (pa_cons (pe_dget (u1 hr.r.units) (pe_dget (u1 hr.r.units) (pv 1) pe_str (fun _ _ => rfl)) (pv 2) (fun _ _ => rfl)) (pa_cons (pe_dget (u1 hr.r.units) (pv 1) pe_str (fun _ _ => rfl)) pa_nil)) (by rfl))
      (pss_cons (ps_set (i := 5) sc_law_nothing_told.nd rfl (Or.inl rfl) (pe_ix (k_ix (K := K) rfl) (pe_ix (k_ix (K := K) rfl) (pv 3) pe_int (fun _ _ => rfl)) pe_int (fun _ _ => rfl)))
      (pss_cons (ps_set (i := 6) sc_law_nothing_told.nd rfl (Or.inl rfl) (pe_lst (pa_cons (dm T.cl_Store T.me_Store_put (ok_Store_put T) (hr.mono (by decide)) T.b_Store_put passL (pv 0) (pa_cons (pv 2) (pa_cons pe_int (pa_cons (pv 5) pa_nil)))) (pa_cons (dm T.cl_Store T.me_Store_fill (ok_Store_fill T) (hr.mono (by decide)) T.b_Store_fill passL (pv 0) (pa_cons (pv 2) (pa_cons (pv 4) (pa_cons (pv 4) (pa_cons pe_int pa_nil))))) (pa_cons (dm T.cl_Store T.me_Store_bring (ok_Store_bring T) (hr.mono (by decide)) T.b_Store_bring passL (pv 0) (pa_cons (pv 2) (pa_cons pe_int (pa_cons (pv 4) (pa_cons pe_int pa_nil))))) pa_nil)))))
      (pss_one (ps_ret (pe_cmpR (k_eq (K := K) rfl hr.r.units) (pe_op (k_add (K := K) rfl) (pv 6) (pe_lst (pa_cons (km T.cl_Store T.me_Store_bring (ok_Store_bring T) (hr.mono (by decide)) T.kb_Store_bring_5_source passL (pv 0) (pa_cons (pv 2) (pa_cons pe_int (pa_cons (pv 4) (pa_cons pe_int pa_nil)))) (pk_cons (pv 2) pk_nil)) pa_nil))) (pe_op o_mul (pe_lst (pa_cons pe_non pa_nil)) pe_int) (nomark _))))))))), ?_⟩
    dsimp only [cxOf, st_1, st_2, st_3, st_4, st_5, st_6, List.length_cons, List.length_nil, List.replicate_succ, List.replicate_zero, Nat.reduceAdd, Nat.reduceSub]
    walk_at "gs"
    refine i_new fun q fq => ?_
    have k1 : Kp [] H (upd H q (.lst [])) := Kp.new fq
    have B1 := B.kp0 k1
    have hq : (upd H q (.lst [])) q = some (.lst []) := upd_same
    obtain ⟨H1, e1⟩ : ∃ H1, H1 = upd H q (.lst []) := ⟨_, rfl⟩
    rw [← e1] at k1 B1 hq ⊢
    walk_at "gs"
    refine eq_ints (l := w.liv) (r := []) (SqL.of B1.m.hl) (SqL.of hq) ?_
    walk_at "gs"
    refine i_dec (fun _ => ?_) (fun ne => ?_)
    · walk_at "gs"
      exact k w H1 (fx_kp k1 fx_refl) B1
    obtain ⟨fr, u, eu⟩ := list_last ne
    have hu : u ∈ w.liv := by rw [eu]; exact List.mem_append.mpr (.inr (List.mem_singleton.mpr rfl))
    have hm1 := B1.m.hm
    have hl1 : H1 w.L = some (.lst (fr.map V.int ++ [V.int u])) := by rw [B1.m.hl, eu, List.map_append]; rfl
    obtain ⟨r, hrw, _, hrv⟩ := B1.row hu
    obtain ⟨_, _, _, hst1⟩ := B1.ins
    obtain ⟨cn, cf, co⟩ := B1.cl u hu
    have n1 := B1.n1
    have hw0 := B1.pos hu
    have fu := B1.few hu
    have lu := B1.len hu
    walk_at "gs"
    refine i_dg B1.m.hr hrv ?_
    obtain ⟨⟨rv, hrvs, arv⟩, _⟩ := B1.m.rr _ hrw
    have hrvs : H1 r = some (.lst rv) := hrvs
    have hne : rle (w.c u) ≠ [] := rle_ne (by
      intro e
      rw [e] at lu
      simp at lu)
    obtain ⟨q0, qt, eq0⟩ := List.exists_cons_of_ne_nil hne
    have hq0 : (rle (w.c u))[0]? = some q0 := by rw [eq0]; rfl
    have c0 : (w.c u)[0]? = some q0.2 := by
      have pos := rle_pos (w.c u) q0 (List.mem_of_getElem? hq0)
      have z := run_cell (rle_pos (w.c u)) hq0 (x := 0) (by rw [List.take_zero]; exact Int.le_refl _) (by rw [List.take_zero]; show (0 : Int) < 0 + q0.1; omega)
      rw [cells_rle] at z
      exact z
    have arv : DpAll K H1 rv ((rle (w.c u)).map d2) := arv
    rw [eq0, List.map_cons] at arv
    cases arv
    rename_i v0 vt hv0 hvt
    obtain ⟨t0, rfl, ht0⟩ := dp_pair hv0
    walk_at "gs"
    refine ⟨st, w.own, n, w.ever, w.liv, w.ks, w.nb, w.c, u, 0, q0.2, rfl, B1.s, hw0, B1.zs.nl, hu, fu, by omega, fun own2 H2 k2 g2 S2 => ?_⟩
    have B2 := B1.again k2 g2 (laid_put c0) S2
    obtain ⟨_, _, _, hst2⟩ := B2.ins
    walk_at "gs"
    refine ⟨st, own2, n, w.ever, w.liv, w.ks, w.nb, w.c, u, n, n, 5, rfl, B2.s, hw0, B2.zs.nl, hu, fu, by omega, fun own3 H3 k3 g3 S3 => ?_⟩
    have B3 := B2.again k3 g3 (by rw [Int.sub_self]; exact laid_none) S3
    obtain ⟨_, _, _, hst3⟩ := B3.ins
    walk_at "gs"
    refine ⟨st, own3, n, w.ever, w.liv, w.ks, w.nb, w.c, u, 0, n, 0, u, .non, rfl, B3.s, hw0, hw0, B3.zs.nl, hu, hu, .inl ⟨rfl, rfl⟩, fu, fu, rfl, lu, by omega, by omega, fun own4 H4 k4 g4 S4 => ?_⟩
    have en : n.toNat = (w.c u).length := by omega
    have ea : laid (w.c u) (0 : Int).toNat (((w.c u).drop (0 : Int).toNat).take (n.toNat - (0 : Int).toNat)) ((0 : Int) + n - 0).toNat = w.c u := by
      rw [show ((0 : Int) + n - 0).toNat = (w.c u).length by omega, show n.toNat - (0 : Int).toNat = (w.c u).length by omega]
      exact laid_all
    have B4 := B3.again k4 g4 ea S4
    walk_at "gs"
    refine i_new fun L1 fL1 => ?_
    have k5 := Kp.new (ws := []) (o := HO.lst [V.non, V.non, V.non]) fL1
    have hL1 : (upd H4 L1 (.lst [V.non, V.non, V.non])) L1 = some (.lst [V.non, V.non, V.non]) := upd_same
    have B5 := B4.kp0 k5
    have aL := B4.fr fL1
    obtain ⟨H5, e5⟩ : ∃ H5, H5 = upd H4 L1 (.lst [V.non, V.non, V.non]) := ⟨_, rfl⟩
    rw [← e5] at k5 hL1 B5 ⊢
    obtain ⟨_, _, _, hst5⟩ := B5.ins
    walk_at "gs"
    refine ⟨st, own4, n, w.ever, w.liv, w.ks, w.nb, w.c, u, 0, n, 0, u, .int u, rfl, B5.s, hw0, hw0, B5.zs.nl, hu, hu, .inr rfl, fu, fu, rfl, lu, by omega, by omega, fun own6 H6 k6 g6 S6 => ?_⟩
    have B6 := B5.again k6 g6 ea S6
    have hL6 := k6.at_ _ _ hL1 aL.1
    walk_at "gs"
    refine i_new fun L2 fL2 => ?_
    have k7 := Kp.new (ws := []) (o := HO.lst [V.non]) fL2
    have hL2 : (upd H6 L2 (.lst [V.non])) L2 = some (.lst [V.non]) := upd_same
    have B7 := B6.kp0 k7
    have hL7 := k7.at_ _ _ hL6 not_nil
    obtain ⟨H7, e7⟩ : ∃ H7, H7 = upd H6 L2 (.lst [V.non]) := ⟨_, rfl⟩
    rw [← e7] at k7 hL2 B7 hL7 ⊢
    walk_at "gs"
    refine i_new fun L3 fL3 => ?_
    have k8 := Kp.new (ws := []) (o := HO.lst ([V.non, V.non, V.non] ++ [V.non])) fL3
    have hL8 : (upd H7 L3 (.lst ([V.non, V.non, V.non] ++ [V.non]))) L3 = some (.lst [V.non, V.non, V.non, V.non]) := upd_same
    have B8 := B7.kp0 k8
    obtain ⟨H8, e8⟩ : ∃ H8, H8 = upd H7 L3 (.lst ([V.non, V.non, V.non] ++ [V.non])) := ⟨_, rfl⟩
    rw [← e8] at k8 hL8 B8 ⊢
    walk_at "gs"
    refine i_new fun L4 fL4 => ?_
    have k9 := Kp.new (ws := []) (o := HO.lst [V.non]) fL4
    have hL4 : (upd H8 L4 (.lst [V.non])) L4 = some (.lst [V.non]) := upd_same
    have B9 := B8.kp0 k9
    have hL9 := k9.at_ _ _ hL8 not_nil
    obtain ⟨H9, e9⟩ : ∃ H9, H9 = upd H8 L4 (.lst [V.non]) := ⟨_, rfl⟩
    rw [← e9] at k9 hL4 B9 hL9 ⊢
    walk_at "gs"
    refine .inr (.inr (i_rep hL4 (by decide) (by decide) (i_new fun L5 fL5 => ?_)))
    have k10 := Kp.new (ws := []) (o := HO.lst (List.replicate (4 : Int).toNat V.non)) fL5
    have hL10 : (upd H9 L5 (.lst (List.replicate (4 : Int).toNat V.non))) L5 = some (.lst [V.non, V.non, V.non, V.non]) := upd_same
    have B10 := B9.kp0 k10
    have hL11 := k10.at_ _ _ hL9 not_nil
    obtain ⟨H10, e10⟩ : ∃ H10, H10 = upd H9 L5 (.lst (List.replicate (4 : Int).toNat V.non)) := ⟨_, rfl⟩
    rw [← e10] at k10 hL10 B10 hL11 ⊢
    have nons : ∀ {a : Addr}, H10 a = some (.lst [V.non, V.non, V.non, V.non]) → Dp K H10 (.ref a) (.list [.none, .none, .none, .none]) := fun {a} e => .lst (SqL.of e) (.cons .non (.cons .non (.cons .non (.cons .non .nil))))
    refine eq_same (nons hL11) (nons hL10) (by decide +kernel) ?_
    walk_at "gs"
    exact k _ H10 (fx_kp k10 (fx_kp k9 (fx_kp k8 (fx_kp k7 (fx_kp k6 (fx_kp k5 (fx_kp k4 (fx_kp k3 (fx_kp k2 (fx_kp k1 fx_refl)))))))))) B10

theorem only_fx {K : PySem.W.Frag} {H H1 : Hp} {a : Addr} {xs : List V} (o : Only H) (k : Fx H H1) (h : SqL K H a xs) : SqL K H1 a xs := by
  rcases h with (h | ⟨ob, h⟩) | h
  · rcases o a with y | ⟨ob, ys, y⟩ <;> rw [h] at y <;> cases y
  · exact .inl (.inr ⟨ob, k.fx _ _ h trivial⟩)
  · exact .inr h
def sp_law (K : PySem.W.Frag) : Sp := fun vs H Q _ => ∃ (a : Addr) (ns : List Int), vs = [.ref a] ∧ Only H ∧ SqL K H a (ns.map V.int) ∧ ns.length ≤ 63 ∧ ∀ H', Q (.bl true) H'
theorem sc_law : FnScope ["_law_script", "_law_k", "_law_pot_here", "_law_model_here", "_law_store", "_law_turn"] ["_law_script"] (defScope s_law) :=
  ⟨rfl, rfl, rfl, by decide +kernel, rfl, by decide +kernel, by decide +kernel⟩
theorem ok_law {P : Program} {w : World} {K : PySem.W.Frag} {mg : Str → Option Value} {base : Heap} (T : Txt K mg) :
    FnG P w K mg base 12 T.a_law T.d_law ["_law_script"] (sp_law K) := by
  refine okD T.F_law sc_law (fun vs H Q E h => ?_) (fun cdv A outer s H vs Q E hr h => ?_)
  · first
      | (obtain ⟨_, rfl, _⟩ := h; rfl)
      | (obtain ⟨_, _, rfl, _⟩ := h; rfl)
      | (obtain ⟨_, _, _, rfl, _⟩ := h; rfl)
      | (obtain ⟨_, _, _, _, rfl, _⟩ := h; rfl)
      | (obtain ⟨_, _, _, _, _, rfl, _⟩ := h; rfl)
      | (obtain ⟨_, _, _, _, _, _, rfl, _⟩ := h; rfl)
      | (obtain ⟨_, _, _, _, _, _, _, rfl, _⟩ := h; rfl)
      | (obtain ⟨_, _, _, _, _, _, _, _, rfl, _⟩ := h; rfl)
      | (obtain ⟨_, _, _, _, _, _, _, _, _, rfl, _⟩ := h; rfl)
      | (obtain ⟨_, _, _, _, _, _, _, _, _, _, rfl, _⟩ := h; rfl)
      | (obtain ⟨_, _, _, _, _, _, _, _, _, _, _, rfl, _⟩ := h; rfl)
      | (obtain ⟨_, _, _, _, _, _, _, _, _, _, _, _, rfl, _⟩ := h; rfl)
      | (obtain ⟨_, _, _, _, _, _, _, _, _, _, _, _, _, rfl, _⟩ := h; rfl)
      | (obtain ⟨_, _, _, _, _, _, _, _, _, _, _, _, _, _, rfl, _⟩ := h; rfl)
      | (obtain ⟨_, _, _, _, _, _, _, _, _, _, _, _, _, _, _, rfl, _⟩ := h; rfl)
      | (obtain ⟨_, _, _, _, _, _, _, _, _, _, _, _, _, _, _, _, rfl, _⟩ := h; rfl)
      | (obtain ⟨_, _, _, _, _, _, _, _, _, _, _, _, _, _, _, _, _, rfl, _⟩ := h; rfl)
      | (obtain ⟨_, _, _, _, _, _, _, _, _, _, _, _, _, _, _, _, _, _, rfl, _⟩ := h; rfl)
      | (obtain ⟨_, _, _, _, _, _, _, _, _, _, _, _, _, _, _, _, _, _, _, rfl, _⟩ := h; rfl)
  · obtain ⟨a, ns, rfl, on, hs, hl, k⟩ := h
    refine ⟨_, (pss_cons (ps_for (passes_of rfl) rfl (pi_range1 (by rfl) T.n_range (pa_cons (pe_callB (c_max2 rfl) (by rfl) T.n_max (by decide +kernel) (pa_cons pe_int (pa_cons (pe_callB (c_min2 rfl) (by rfl) T.n_min (by decide +kernel) (pa_cons pe_int (pa_cons (pe_callB (k_len (K := K) rfl) (by rfl) T.n_len (by decide +kernel) (pa_cons (pv 0) pa_nil)) pa_nil))) pa_nil))) pa_nil)) (pg_name (i := 1) sc_law.nd rfl (Or.inl rfl))
      (pss_cons (ps_set (i := 2) sc_law.nd rfl (Or.inl rfl) (d1 (ok_law_pot T) (hr.mono (by decide)) (by rfl) T.m_law_pot T.F_law_pot.kp T.b_law_pot passL (pa_cons (pv 0) (pa_cons (pv 1) pa_nil))))
      (pss_cons (ps_set (i := 3) sc_law.nd rfl (Or.inl rfl) (d1 (ok_law_model T) (hr.mono (by decide)) (by rfl) T.m_law_model T.F_law_model.kp T.b_law_model passL (pa_cons (d1 (ok_law_wide T) (hr.mono (by decide)) (by rfl) T.m_law_wide T.F_law_wide.kp T.b_law_wide passL (pa_cons (pv 2) pa_nil)) pa_nil)))
      (pss_cons (ps_set (i := 4) sc_law.nd rfl (Or.inl rfl) (mk1 T.mk_Store (ok_Store_init T) (hr.mono (by decide)) (by rfl) T.mg_Store T.b_Store_init passL (pa_cons (pe_dget (u1 hr.r.units) (pv 3) pe_str (fun _ _ => rfl)) pa_nil)))
      (pss_cons (ps_if (pt_not (pt_val (d1 (ok_law_stands T) (hr.mono (by decide)) (by rfl) T.m_law_stands T.F_law_stands.kp T.b_law_stands passL (pa_cons (pv 2) (pa_cons (pv 4) (pa_cons (pv 3) pa_nil)))))) (pss_one (ps_ret pe_bl)) pss_nil)
      (pss_one (ps_for (passes_of rfl) rfl (pi_range1 (by rfl) T.n_range (pa_cons (d1 (ok_law_take T) (hr.mono (by decide)) (by rfl) T.m_law_take T.F_law_take.kp T.b_law_take passL (pa_cons (pv 2) (pa_cons pe_int pa_nil))) pa_nil)) (pg_name (i := 5) sc_law.nd rfl (Or.inl rfl))
      (pss_cons (ps_if (PW.pt (pw_or (pt_cmpR (k_eq (K := K) rfl hr.r.units) (d1 (ok_law_deed T) (hr.mono (by decide)) (by rfl) T.m_law_deed T.F_law_deed.kp T.b_law_deed passL (pa_cons (pv 2) (pa_cons (pv 4) (pa_cons (pv 3) pa_nil)))) pe_str (nomark _)) (pw_or1 (pt_not (pt_val (d1 (ok_law_stands T) (hr.mono (by decide)) (by rfl) T.m_law_stands T.F_law_stands.kp T.b_law_stands passL (pa_cons (pv 2) (pa_cons (pv 4) (pa_cons (pv 3) pa_nil))))))))) (pss_one (ps_ret pe_bl)) pss_nil)
      (pss_one (ps_if (PW.pt (pw_or (pt_not (pt_val (d1 (ok_law_own T) (hr.mono (by decide)) (by rfl) T.m_law_own T.F_law_own.kp T.b_law_own passL (pa_cons (pv 2) (pa_cons (pv 4) (pa_cons (pv 3) pa_nil)))))) (pw_or1 (pt_not (pt_val (d1 (ok_law_nothing_told T) (hr.mono (by decide)) (by rfl) T.m_law_nothing_told T.F_law_nothing_told.kp T.b_law_nothing_told passL (pa_cons (pv 4) (pa_cons (pv 3) pa_nil)))))))) (pss_one (ps_ret pe_bl)) pss_nil))))))))))
      (pss_one (ps_ret pe_bl))), ?_⟩
    dsimp only [cxOf, st_1, st_2, st_3, st_4, st_5, st_6, List.length_cons, List.length_nil, List.replicate_succ, List.replicate_zero, Nat.reduceAdd, Nat.reduceSub]
    walk_at "gs"
    rw [List.length_map]
    refine i_turns (by omega) (by omega) (fun i σ H' => ∃ o1 o2 o3 o4 o5 : Option V, σ = [some (.ref a), o1, o2, o3, o4, o5] ∧ Fx H H') ?_ ?_ ?_
    · exact ⟨_, _, _, _, _, rfl, fx_refl⟩
    · rintro i σ H1 hi ⟨o1, o2, o3, o4, o5, rfl, f1⟩
      walk_at "gs"
      refine ⟨a, ns, i, rfl, only_fx on f1 hs, by omega, fun p H2 fp k2 hp2 => ?_⟩
      walk_at "gs"
      refine ⟨p, rfl, hp2, fun n H3 n1 n2 hp3 k3 => ?_⟩
      walk_at "gs"
      refine ⟨n, rfl, n1, fun md L N R rep rw H4 fm k4 hrep hrw X4 => ?_⟩
      have hp4 := hp3.kp k4 not_nil
      have hm4 := X4.hm
      walk_at "gs"
      refine i_made fun st dx fs fdx nds => ?_
      refine ⟨st, dx, n, rfl, upd_same, ⟨n1, n2⟩, fun own H5 k5 g5 S5 => ⟨rfl, ?_⟩⟩
      have k45 : Kp [] H4 H5 := kp_made fs fdx k5
      have fo : ∀ b ∈ own, Fr H4 b := fun b hb => by
        rcases g5 b hb with h | h
        · rw [List.mem_singleton.mp h]
          exact fs
        · exact (Kp.upd (Kp.new (ws := []) fdx) fs).free h
      have X5 := X4.kp0 k45
      have nt : ∀ {b : Addr}, Tr H4 b → b ∉ own := fun {b} t z => fr_not_tr (fo b z) t
      have pm : p ∉ ownM md L N R rep := fun z => fr_not_tr (fm p z) (tr_pot hp3)
      have B5 : Both K T.c_Memory T.c_Ties T.c_Store H5 st md p n ⟨own, L, N, R, rep, rw, 1, [0], [0], fun _ => [], fun _ => [], fun _ => List.replicate n.toNat 0, D0⟩ := by
        refine ⟨S5, X5, hrw, tr3_init, by show Tr3 D0 1 [0] (rep.map (·.1)) _; rw [hrep]; exact tr3_init, fun b hb z => ?_, fun q hq => nt (X4.rtr hq), fun u _ => ⟨?_, ?_, fun v hv => ?_⟩, ⟨n1, n2⟩, by show (1 : Int) ≤ 100; decide, by show 1 ≤ 100; decide, hp4.kp k45 not_nil, nt (tr_pot hp4), pm, fun q hq e => ?_⟩
        · obtain ⟨x, e⟩ := X4.known b z
          exact nt ⟨x, e⟩ hb
        · show ((List.replicate n.toNat (0 : Int)).length : Int) = n
          rw [List.length_replicate]
          omega
        · show (rle (List.replicate n.toNat 0)).length ≤ 24
          rw [rle_one n1]
          show 1 ≤ 24
          decide
        · rw [(List.mem_replicate.mp hv).2]
          unfold okM
          omega
        · obtain ⟨vs, e1, a1⟩ := (X4.rr q hq).1
          obtain ⟨y1, y2, e2, _⟩ := hp4
          rw [e, e2] at e1
          cases e1
          have : rle (List.replicate n.toNat 0) = [(n, 0)] := rle_one n1
          have a1 : DpAll K H4 [V.int y1, V.int y2] ((rle (List.replicate n.toNat 0)).map d2) := a1
          have l := dpa_len a1
          rw [this] at l
          cases l
      have f5 : Fx H H5 := fx_kp k45 (fx_kp k4 (fx_kp k3 (fx_kp k2 f1)))
      obtain ⟨w5, ew⟩ : ∃ w5, w5 = Wd.mk own L N R rep rw 1 [0] [0] (fun _ => []) (fun _ => []) (fun _ => List.replicate n.toNat 0) D0 := ⟨_, rfl⟩
      rw [← ew] at B5
      clear ew
      walk_at "gs"
      refine ⟨st, md, p, n, w5, rfl, B5, fun H6 f6 B6 => ?_⟩
      walk_at "gs"
      refine use_take B6.pot (by decide) (by decide) (fun r H7 r0 r1 hp7 k7 => ?_)
      have B7 := B6.kpp k7 hp7
      have f7 : Fx H H7 := fx_kp k7 (fx_trans f5 f6)
      walk_at "gs"
      refine i_turns (by omega) (by omega) (fun j σ H' => ∃ (o5 : Option V) (w : Wd), σ = [some (.ref a), some (.int i), some (.ref p), some (.ref md), some (.ref st), o5] ∧ Fx H H' ∧ Both K T.c_Memory T.c_Ties T.c_Store H' st md p n w) ?_ ?_ ?_
      · exact ⟨_, w5, rfl, f7, B7⟩
      · rintro j σ H8 hj ⟨o5, w, rfl, f8, B8⟩
        walk_at "gs"
        refine ⟨st, md, p, n, w, rfl, B8, fun s w9 H9 f9 B9 hs9 => ?_⟩
        walk_at "gs"
        rw [decide_eq_false hs9]
        walk_at "gs"
        refine ⟨st, md, p, n, w9, rfl, B9, fun H10 f10 B10 => ?_⟩
        walk_at "gs"
        refine ⟨st, md, p, n, w9, rfl, B10, fun H11 f11 B11 => ?_⟩
        walk_at "gs"
        refine ⟨st, md, p, n, w9, rfl, B11, fun w12 H12 f12 B12 => ?_⟩
        walk_at "gs"
        exact ⟨_, w12, rfl, fx_trans f8 (fx_trans f9 (fx_trans f10 (fx_trans f11 f12))), B12⟩
      · rintro σ H8 ⟨o5, w, rfl, f8, B8⟩
        exact ⟨_, _, _, _, _, rfl, f8⟩
    · rintro σ H1 ⟨o1, o2, o3, o4, o5, rfl, f1⟩
      walk_at "gs"
      exact k _
theorem law_end {K : PySem.W.Frag} {H : Hp} {a : Addr} {ns : List Int} (hl : ns.length ≤ 63)
    (_ : ∀ z ∈ ns, Builtin.Int.intBits z ≤ 1048576) (ho : Only H) (hs : SqL K H a (ns.map V.int)) :
    sp_law K [.ref a] H (fun v _ => v = .bl true) fun _ _ _ => False :=
  ⟨a, ns, rfl, ho, hs, hl, fun _ => rfl⟩
theorem all_mk {l : PySem.W.OpenLaw} {w : World} {K : PySem.W.Frag} {h : Heap}
    {mg : Str → Option Value} {fa : Addr} (X : K.In h) (N : h.Ns mainGlobals mg)
    (hfa : mg "law" = some (.ref fa))
    {C0 : Addr} (ac0 : PySem.W.nsIn K mainGlobals "Memory" = some (some (.ref C0)))
    {C1 : Addr} (ac1 : PySem.W.nsIn K mainGlobals "Ties" = some (some (.ref C1)))
    {C2 : Addr} (ac2 : PySem.W.nsIn K mainGlobals "Store" = some (some (.ref C2)))
    {f0 : Addr} {od0 an0 : Option Addr} {sl0 : Array (Option Value)} {oc0 kV0 dc0 pm0 cd0 ct0 : Value}
    {f1 : Addr} {od1 an1 : Option Addr} {sl1 : Array (Option Value)} {oc1 kV1 dc1 pm1 cd1 ct1 : Value}
    {f2 : Addr} {od2 an2 : Option Addr} {sl2 : Array (Option Value)} {oc2 kV2 dc2 pm2 cd2 ct2 : Value}
    {f3 : Addr} {od3 an3 : Option Addr} {sl3 : Array (Option Value)} {oc3 kV3 dc3 pm3 cd3 ct3 : Value}
    {f4 : Addr} {od4 an4 : Option Addr} {sl4 : Array (Option Value)} {oc4 kV4 dc4 pm4 cd4 ct4 : Value}
    {f5 : Addr} {od5 an5 : Option Addr} {sl5 : Array (Option Value)} {oc5 kV5 dc5 pm5 cd5 ct5 : Value}
    {f6 : Addr} {od6 an6 : Option Addr} {sl6 : Array (Option Value)} {oc6 kV6 dc6 pm6 cd6 ct6 : Value}
    {f7 : Addr} {od7 an7 : Option Addr} {sl7 : Array (Option Value)} {oc7 kV7 dc7 pm7 cd7 ct7 : Value}
    {f8 : Addr} {od8 an8 : Option Addr} {sl8 : Array (Option Value)} {oc8 kV8 dc8 pm8 cd8 ct8 : Value}
    {f9 : Addr} {od9 an9 : Option Addr} {sl9 : Array (Option Value)} {oc9 kV9 dc9 pm9 cd9 ct9 : Value}
    {f10 : Addr} {od10 an10 : Option Addr} {sl10 : Array (Option Value)} {oc10 kV10 dc10 pm10 cd10 ct10 : Value}
    {f11 : Addr} {od11 an11 : Option Addr} {sl11 : Array (Option Value)} {oc11 kV11 dc11 pm11 cd11 ct11 : Value}
    {f12 : Addr} {od12 an12 : Option Addr} {sl12 : Array (Option Value)} {oc12 dc12 pm12 cd12 ct12 : Value}
    {f13 : Addr} {od13 an13 : Option Addr} {sl13 : Array (Option Value)} {oc13 kV13 dc13 pm13 cd13 ct13 : Value}
    {f14 : Addr} {od14 an14 : Option Addr} {sl14 : Array (Option Value)} {oc14 kV14 dc14 pm14 cd14 ct14 : Value}
    {f15 : Addr} {od15 an15 : Option Addr} {sl15 : Array (Option Value)} {oc15 kV15 dc15 pm15 cd15 ct15 : Value}
    {f16 : Addr} {od16 an16 : Option Addr} {sl16 : Array (Option Value)} {oc16 kV16 dc16 pm16 cd16 ct16 : Value}
    {f17 : Addr} {od17 an17 : Option Addr} {sl17 : Array (Option Value)} {oc17 kV17 dc17 pm17 cd17 ct17 : Value}
    {f18 : Addr} {od18 an18 : Option Addr} {sl18 : Array (Option Value)} {oc18 kV18 dc18 pm18 cd18 ct18 : Value}
    {f19 : Addr} {od19 an19 : Option Addr} {sl19 : Array (Option Value)} {oc19 dc19 pm19 cd19 ct19 : Value}
    {f20 : Addr} {od20 an20 : Option Addr} {sl20 : Array (Option Value)} {oc20 kV20 dc20 pm20 cd20 ct20 : Value}
    {f21 : Addr} {od21 an21 : Option Addr} {sl21 : Array (Option Value)} {oc21 kV21 dc21 pm21 cd21 ct21 : Value}
    {f22 : Addr} {od22 an22 : Option Addr} {sl22 : Array (Option Value)} {oc22 kV22 dc22 pm22 cd22 ct22 : Value}
    {f23 : Addr} {od23 an23 : Option Addr} {sl23 : Array (Option Value)} {oc23 kV23 dc23 pm23 cd23 ct23 : Value}
    {f24 : Addr} {od24 an24 : Option Addr} {sl24 : Array (Option Value)} {oc24 kV24 dc24 pm24 cd24 ct24 : Value}
    {f25 : Addr} {od25 an25 : Option Addr} {sl25 : Array (Option Value)} {oc25 kV25 dc25 pm25 cd25 ct25 : Value}
    {f26 : Addr} {od26 an26 : Option Addr} {sl26 : Array (Option Value)} {oc26 kV26 dc26 pm26 cd26 ct26 : Value}
    {f27 : Addr} {od27 an27 : Option Addr} {sl27 : Array (Option Value)} {oc27 kV27 dc27 pm27 cd27 ct27 : Value}
    {f28 : Addr} {od28 an28 : Option Addr} {sl28 : Array (Option Value)} {oc28 kV28 dc28 pm28 cd28 ct28 : Value}
    {f29 : Addr} {od29 an29 : Option Addr} {sl29 : Array (Option Value)} {oc29 kV29 dc29 pm29 cd29 ct29 : Value}
    {f30 : Addr} {od30 an30 : Option Addr} {sl30 : Array (Option Value)} {oc30 kV30 dc30 pm30 cd30 ct30 : Value}
    {f31 : Addr} {od31 an31 : Option Addr} {sl31 : Array (Option Value)} {oc31 kV31 dc31 pm31 cd31 ct31 : Value}
    {f32 : Addr} {od32 an32 : Option Addr} {sl32 : Array (Option Value)} {oc32 kV32 dc32 pm32 cd32 ct32 : Value}
    {f33 : Addr} {od33 an33 : Option Addr} {sl33 : Array (Option Value)} {oc33 kV33 dc33 pm33 cd33 ct33 : Value}
    {f34 : Addr} {od34 an34 : Option Addr} {sl34 : Array (Option Value)} {oc34 kV34 dc34 pm34 cd34 ct34 : Value}
    {f35 : Addr} {od35 an35 : Option Addr} {sl35 : Array (Option Value)} {oc35 kV35 dc35 pm35 cd35 ct35 : Value}
    {f36 : Addr} {od36 an36 : Option Addr} {sl36 : Array (Option Value)} {oc36 kV36 dc36 pm36 cd36 ct36 : Value}
    {f37 : Addr} {od37 an37 : Option Addr} {sl37 : Array (Option Value)} {oc37 kV37 dc37 pm37 cd37 ct37 : Value}
    {f38 : Addr} {od38 an38 : Option Addr} {sl38 : Array (Option Value)} {oc38 kV38 dc38 pm38 cd38 ct38 : Value}
    {f39 : Addr} {od39 an39 : Option Addr} {sl39 : Array (Option Value)} {oc39 kV39 dc39 pm39 cd39 ct39 : Value}
    {f40 : Addr} {od40 an40 : Option Addr} {sl40 : Array (Option Value)} {oc40 kV40 dc40 pm40 cd40 ct40 : Value}
    {f41 : Addr} {od41 an41 : Option Addr} {sl41 : Array (Option Value)} {oc41 kV41 dc41 pm41 cd41 ct41 : Value}
    {f42 : Addr} {od42 an42 : Option Addr} {sl42 : Array (Option Value)} {oc42 kV42 dc42 pm42 cd42 ct42 : Value}
    {f43 : Addr} {od43 an43 : Option Addr} {sl43 : Array (Option Value)} {oc43 kV43 dc43 pm43 cd43 ct43 : Value}
    {f44 : Addr} {od44 an44 : Option Addr} {sl44 : Array (Option Value)} {oc44 kV44 dc44 pm44 cd44 ct44 : Value}
    {f45 : Addr} {od45 an45 : Option Addr} {sl45 : Array (Option Value)} {oc45 kV45 dc45 pm45 cd45 ct45 : Value}
    {f46 : Addr} {od46 an46 : Option Addr} {sl46 : Array (Option Value)} {oc46 kV46 dc46 pm46 cd46 ct46 : Value}
    {f47 : Addr} {od47 an47 : Option Addr} {sl47 : Array (Option Value)} {oc47 kV47 dc47 pm47 cd47 ct47 : Value}
    {f48 : Addr} {od48 an48 : Option Addr} {sl48 : Array (Option Value)} {oc48 kV48 dc48 pm48 cd48 ct48 : Value}
    {f49 : Addr} {od49 an49 : Option Addr} {sl49 : Array (Option Value)} {oc49 kV49 dc49 pm49 cd49 ct49 : Value}
    {f50 : Addr} {od50 an50 : Option Addr} {sl50 : Array (Option Value)} {oc50 kV50 dc50 pm50 cd50 ct50 : Value}
    {f51 : Addr} {od51 an51 : Option Addr} {sl51 : Array (Option Value)} {oc51 kV51 dc51 pm51 cd51 ct51 : Value}
    {f52 : Addr} {od52 an52 : Option Addr} {sl52 : Array (Option Value)} {oc52 kV52 dc52 pm52 cd52 ct52 : Value}
    {f53 : Addr} {od53 an53 : Option Addr} {sl53 : Array (Option Value)} {oc53 kV53 dc53 pm53 cd53 ct53 : Value}
    {f54 : Addr} {od54 an54 : Option Addr} {sl54 : Array (Option Value)} {oc54 kV54 dc54 pm54 cd54 ct54 : Value}
    {f55 : Addr} {od55 an55 : Option Addr} {sl55 : Array (Option Value)} {oc55 kV55 dc55 pm55 cd55 ct55 : Value}
    {f56 : Addr} {od56 an56 : Option Addr} {sl56 : Array (Option Value)} {oc56 dc56 pm56 cd56 ct56 : Value}
    {f57 : Addr} {od57 an57 : Option Addr} {sl57 : Array (Option Value)} {oc57 kV57 dc57 pm57 cd57 ct57 : Value}
    {f58 : Addr} {od58 an58 : Option Addr} {sl58 : Array (Option Value)} {oc58 kV58 dc58 pm58 cd58 ct58 : Value}
    {f59 : Addr} {od59 an59 : Option Addr} {sl59 : Array (Option Value)} {oc59 kV59 dc59 pm59 cd59 ct59 : Value}
    {f60 : Addr} {od60 an60 : Option Addr} {sl60 : Array (Option Value)} {oc60 kV60 dc60 pm60 cd60 ct60 : Value}
    {f61 : Addr} {od61 an61 : Option Addr} {sl61 : Array (Option Value)} {oc61 kV61 dc61 pm61 cd61 ct61 : Value}
    {f62 : Addr} {od62 an62 : Option Addr} {sl62 : Array (Option Value)} {oc62 kV62 dc62 pm62 cd62 ct62 : Value}
    {f63 : Addr} {od63 an63 : Option Addr} {sl63 : Array (Option Value)} {oc63 kV63 dc63 pm63 cd63 ct63 : Value}
    {f64 : Addr} {od64 an64 : Option Addr} {sl64 : Array (Option Value)} {oc64 kV64 dc64 pm64 cd64 ct64 : Value}
    {f65 : Addr} {od65 an65 : Option Addr} {sl65 : Array (Option Value)} {oc65 kV65 dc65 pm65 cd65 ct65 : Value}
    {f66 : Addr} {od66 an66 : Option Addr} {sl66 : Array (Option Value)} {oc66 kV66 dc66 pm66 cd66 ct66 : Value}
    {f67 : Addr} {od67 an67 : Option Addr} {sl67 : Array (Option Value)} {oc67 kV67 dc67 pm67 cd67 ct67 : Value}
    {f68 : Addr} {od68 an68 : Option Addr} {sl68 : Array (Option Value)} {oc68 kV68 dc68 pm68 cd68 ct68 : Value}
    {f69 : Addr} {od69 an69 : Option Addr} {sl69 : Array (Option Value)} {oc69 kV69 dc69 pm69 cd69 ct69 : Value}
    {f70 : Addr} {od70 an70 : Option Addr} {sl70 : Array (Option Value)} {oc70 kV70 dc70 pm70 cd70 ct70 : Value}
    {f71 : Addr} {od71 an71 : Option Addr} {sl71 : Array (Option Value)} {oc71 kV71 dc71 pm71 cd71 ct71 : Value}
    {f72 : Addr} {od72 an72 : Option Addr} {sl72 : Array (Option Value)} {oc72 kV72 dc72 pm72 cd72 ct72 : Value}
    {f73 : Addr} {od73 an73 : Option Addr} {sl73 : Array (Option Value)} {oc73 kV73 dc73 pm73 cd73 ct73 : Value}
    {f74 : Addr} {od74 an74 : Option Addr} {sl74 : Array (Option Value)} {oc74 kV74 dc74 pm74 cd74 ct74 : Value}
    {f75 : Addr} {od75 an75 : Option Addr} {sl75 : Array (Option Value)} {oc75 kV75 dc75 pm75 cd75 ct75 : Value}
    {f76 : Addr} {od76 an76 : Option Addr} {sl76 : Array (Option Value)} {oc76 kV76 dc76 pm76 cd76 ct76 : Value}
    {f77 : Addr} {od77 an77 : Option Addr} {sl77 : Array (Option Value)} {oc77 kV77 dc77 pm77 cd77 ct77 : Value}
    {f78 : Addr} {od78 an78 : Option Addr} {sl78 : Array (Option Value)} {oc78 kV78 dc78 pm78 cd78 ct78 : Value}
    {f79 : Addr} {od79 an79 : Option Addr} {sl79 : Array (Option Value)} {oc79 kV79 dc79 pm79 cd79 ct79 : Value}
    {f80 : Addr} {od80 an80 : Option Addr} {sl80 : Array (Option Value)} {oc80 kV80 dc80 pm80 cd80 ct80 : Value}
    {f81 : Addr} {od81 an81 : Option Addr} {sl81 : Array (Option Value)} {oc81 kV81 dc81 pm81 cd81 ct81 : Value}
    {f82 : Addr} {od82 an82 : Option Addr} {sl82 : Array (Option Value)} {oc82 kV82 dc82 pm82 cd82 ct82 : Value}
    {f83 : Addr} {od83 an83 : Option Addr} {sl83 : Array (Option Value)} {oc83 kV83 dc83 pm83 cd83 ct83 : Value}
    {f84 : Addr} {od84 an84 : Option Addr} {sl84 : Array (Option Value)} {oc84 kV84 dc84 pm84 cd84 ct84 : Value}
    {f85 : Addr} {od85 an85 : Option Addr} {sl85 : Array (Option Value)} {oc85 kV85 dc85 pm85 cd85 ct85 : Value}
    {f86 : Addr} {od86 an86 : Option Addr} {sl86 : Array (Option Value)} {oc86 kV86 dc86 pm86 cd86 ct86 : Value}
    {f87 : Addr} {od87 an87 : Option Addr} {sl87 : Array (Option Value)} {oc87 kV87 dc87 pm87 cd87 ct87 : Value}
    (a0 : PySem.W.nsIn K mainGlobals "_wall" = some (some (.ref f0)))
    (l0 : K.lookup f0 = some ⟨oc0, od0, .func (PySem.W.fnOf "_wall" "_wall" (defArgs s_wall) (defBody s_wall)
      (defScope s_wall) .none kV0 dc0 pm0 an0 cd0 ct0), sl0⟩)
    (c0 : PySem.W.codeIn K cd0 "_wall" = true) (k0 : PySem.W.keepIn K (.ref f0) = true)
    (a1 : PySem.W.nsIn K mainGlobals "is_number" = some (some (.ref f1)))
    (l1 : K.lookup f1 = some ⟨oc1, od1, .func (PySem.W.fnOf "is_number" "is_number" (defArgs s_is_number) (defBody s_is_number)
      (defScope s_is_number) .none kV1 dc1 pm1 an1 cd1 ct1), sl1⟩)
    (c1 : PySem.W.codeIn K cd1 "is_number" = true) (k1 : PySem.W.keepIn K (.ref f1) = true)
    (a2 : PySem.W.nsIn K mainGlobals "is_whole" = some (some (.ref f2)))
    (l2 : K.lookup f2 = some ⟨oc2, od2, .func (PySem.W.fnOf "is_whole" "is_whole" (defArgs s_is_whole) (defBody s_is_whole)
      (defScope s_is_whole) .none kV2 dc2 pm2 an2 cd2 ct2), sl2⟩)
    (c2 : PySem.W.codeIn K cd2 "is_whole" = true) (k2 : PySem.W.keepIn K (.ref f2) = true)
    (a3 : PySem.W.nsIn K mainGlobals "is_size" = some (some (.ref f3)))
    (l3 : K.lookup f3 = some ⟨oc3, od3, .func (PySem.W.fnOf "is_size" "is_size" (defArgs s_is_size) (defBody s_is_size)
      (defScope s_is_size) .none kV3 dc3 pm3 an3 cd3 ct3), sl3⟩)
    (c3 : PySem.W.codeIn K cd3 "is_size" = true) (k3 : PySem.W.keepIn K (.ref f3) = true)
    (a4 : PySem.W.nsIn K mainGlobals "is_run" = some (some (.ref f4)))
    (l4 : K.lookup f4 = some ⟨oc4, od4, .func (PySem.W.fnOf "is_run" "is_run" (defArgs s_is_run) (defBody s_is_run)
      (defScope s_is_run) .none kV4 dc4 pm4 an4 cd4 ct4), sl4⟩)
    (c4 : PySem.W.codeIn K cd4 "is_run" = true) (k4 : PySem.W.keepIn K (.ref f4) = true)
    (a5 : PySem.W.nsIn K mainGlobals "are_runs" = some (some (.ref f5)))
    (l5 : K.lookup f5 = some ⟨oc5, od5, .func (PySem.W.fnOf "are_runs" "are_runs" (defArgs s_are_runs) (defBody s_are_runs)
      (defScope s_are_runs) .none kV5 dc5 pm5 an5 cd5 ct5), sl5⟩)
    (c5 : PySem.W.codeIn K cd5 "are_runs" = true) (k5 : PySem.W.keepIn K (.ref f5) = true)
    (a6 : PySem.W.nsIn K mainGlobals "joined" = some (some (.ref f6)))
    (l6 : K.lookup f6 = some ⟨oc6, od6, .func (PySem.W.fnOf "joined" "joined" (defArgs s_joined) (defBody s_joined)
      (defScope s_joined) .none kV6 dc6 pm6 an6 cd6 ct6), sl6⟩)
    (c6 : PySem.W.codeIn K cd6 "joined" = true) (k6 : PySem.W.keepIn K (.ref f6) = true)
    (a7 : PySem.W.nsIn K mainGlobals "cut_out" = some (some (.ref f7)))
    (l7 : K.lookup f7 = some ⟨oc7, od7, .func (PySem.W.fnOf "cut_out" "cut_out" (defArgs s_cut_out) (defBody s_cut_out)
      (defScope s_cut_out) .none kV7 dc7 pm7 an7 cd7 ct7), sl7⟩)
    (c7 : PySem.W.codeIn K cd7 "cut_out" = true) (k7 : PySem.W.keepIn K (.ref f7) = true)
    (a8 : PySem.W.nsIn K mainGlobals "want_size" = some (some (.ref f8)))
    (l8 : K.lookup f8 = some ⟨oc8, od8, .func (PySem.W.fnOf "want_size" "want_size" (defArgs s_want_size) (defBody s_want_size)
      (defScope s_want_size) .none kV8 dc8 pm8 an8 cd8 ct8), sl8⟩)
    (c8 : PySem.W.codeIn K cd8 "want_size" = true) (k8 : PySem.W.keepIn K (.ref f8) = true)
    (a9 : PySem.W.nsIn K mainGlobals "want_number" = some (some (.ref f9)))
    (l9 : K.lookup f9 = some ⟨oc9, od9, .func (PySem.W.fnOf "want_number" "want_number" (defArgs s_want_number) (defBody s_want_number)
      (defScope s_want_number) .none kV9 dc9 pm9 an9 cd9 ct9), sl9⟩)
    (c9 : PySem.W.codeIn K cd9 "want_number" = true) (k9 : PySem.W.keepIn K (.ref f9) = true)
    (a10 : PySem.W.nsIn K mainGlobals "want_cell" = some (some (.ref f10)))
    (l10 : K.lookup f10 = some ⟨oc10, od10, .func (PySem.W.fnOf "want_cell" "want_cell" (defArgs s_want_cell) (defBody s_want_cell)
      (defScope s_want_cell) .none kV10 dc10 pm10 an10 cd10 ct10), sl10⟩)
    (c10 : PySem.W.codeIn K cd10 "want_cell" = true) (k10 : PySem.W.keepIn K (.ref f10) = true)
    (a11 : PySem.W.nsIn K mainGlobals "want_stretch" = some (some (.ref f11)))
    (l11 : K.lookup f11 = some ⟨oc11, od11, .func (PySem.W.fnOf "want_stretch" "want_stretch" (defArgs s_want_stretch) (defBody s_want_stretch)
      (defScope s_want_stretch) .none kV11 dc11 pm11 an11 cd11 ct11), sl11⟩)
    (c11 : PySem.W.codeIn K cd11 "want_stretch" = true) (k11 : PySem.W.keepIn K (.ref f11) = true)
    (a12 : PySem.W.findIn K (.ref C0) "__init__" = some (some (.ref f12))) (i12 : PySem.W.isFn K (.ref f12) = true)
    {D12 : Addr}
    (l12 : K.lookup f12 = some ⟨oc12, od12, .func (PySem.W.fnOf "__init__" "Memory.__init__" (defArgs s_Memory_init) (defBody s_Memory_init)
      (defScope s_Memory_init) .none (.ref D12) dc12 pm12 an12 cd12 ct12), sl12⟩)
    (c12 : PySem.W.codeIn K cd12 "Memory.__init__" = true) (k12 : PySem.W.keepIn K (.ref f12) = true)
    {tq12_0 : Tok} (q12_0 : PySem.W.nsIn K D12 "number" = some (some (.int 0 tq12_0)))
    (a13 : PySem.W.findIn K (.ref C0) "size" = some (some (.ref f13))) (i13 : PySem.W.isFn K (.ref f13) = true)
    (l13 : K.lookup f13 = some ⟨oc13, od13, .func (PySem.W.fnOf "size" "Memory.size" (defArgs s_Memory_size) (defBody s_Memory_size)
      (defScope s_Memory_size) .none kV13 dc13 pm13 an13 cd13 ct13), sl13⟩)
    (c13 : PySem.W.codeIn K cd13 "Memory.size" = true) (k13 : PySem.W.keepIn K (.ref f13) = true)
    (a14 : PySem.W.findIn K (.ref C0) "at" = some (some (.ref f14))) (i14 : PySem.W.isFn K (.ref f14) = true)
    (l14 : K.lookup f14 = some ⟨oc14, od14, .func (PySem.W.fnOf "at" "Memory.at" (defArgs s_Memory_at) (defBody s_Memory_at)
      (defScope s_Memory_at) .none kV14 dc14 pm14 an14 cd14 ct14), sl14⟩)
    (c14 : PySem.W.codeIn K cd14 "Memory.at" = true) (k14 : PySem.W.keepIn K (.ref f14) = true)
    (a15 : PySem.W.findIn K (.ref C0) "runs" = some (some (.ref f15))) (i15 : PySem.W.isFn K (.ref f15) = true)
    (l15 : K.lookup f15 = some ⟨oc15, od15, .func (PySem.W.fnOf "runs" "Memory.runs" (defArgs s_Memory_runs) (defBody s_Memory_runs)
      (defScope s_Memory_runs) .none kV15 dc15 pm15 an15 cd15 ct15), sl15⟩)
    (c15 : PySem.W.codeIn K cd15 "Memory.runs" = true) (k15 : PySem.W.keepIn K (.ref f15) = true)
    (a16 : PySem.W.findIn K (.ref C0) "lay" = some (some (.ref f16))) (i16 : PySem.W.isFn K (.ref f16) = true)
    (l16 : K.lookup f16 = some ⟨oc16, od16, .func (PySem.W.fnOf "lay" "Memory.lay" (defArgs s_Memory_lay) (defBody s_Memory_lay)
      (defScope s_Memory_lay) .none kV16 dc16 pm16 an16 cd16 ct16), sl16⟩)
    (c16 : PySem.W.codeIn K cd16 "Memory.lay" = true) (k16 : PySem.W.keepIn K (.ref f16) = true)
    (a17 : PySem.W.findIn K (.ref C0) "put" = some (some (.ref f17))) (i17 : PySem.W.isFn K (.ref f17) = true)
    (l17 : K.lookup f17 = some ⟨oc17, od17, .func (PySem.W.fnOf "put" "Memory.put" (defArgs s_Memory_put) (defBody s_Memory_put)
      (defScope s_Memory_put) .none kV17 dc17 pm17 an17 cd17 ct17), sl17⟩)
    (c17 : PySem.W.codeIn K cd17 "Memory.put" = true) (k17 : PySem.W.keepIn K (.ref f17) = true)
    (a18 : PySem.W.findIn K (.ref C0) "fill" = some (some (.ref f18))) (i18 : PySem.W.isFn K (.ref f18) = true)
    (l18 : K.lookup f18 = some ⟨oc18, od18, .func (PySem.W.fnOf "fill" "Memory.fill" (defArgs s_Memory_fill) (defBody s_Memory_fill)
      (defScope s_Memory_fill) .none kV18 dc18 pm18 an18 cd18 ct18), sl18⟩)
    (c18 : PySem.W.codeIn K cd18 "Memory.fill" = true) (k18 : PySem.W.keepIn K (.ref f18) = true)
    (a19 : PySem.W.findIn K (.ref C0) "bring" = some (some (.ref f19))) (i19 : PySem.W.isFn K (.ref f19) = true)
    {D19 : Addr}
    (l19 : K.lookup f19 = some ⟨oc19, od19, .func (PySem.W.fnOf "bring" "Memory.bring" (defArgs s_Memory_bring) (defBody s_Memory_bring)
      (defScope s_Memory_bring) .none (.ref D19) dc19 pm19 an19 cd19 ct19), sl19⟩)
    (c19 : PySem.W.codeIn K cd19 "Memory.bring" = true) (k19 : PySem.W.keepIn K (.ref f19) = true)
    (q19_0 : PySem.W.nsIn K D19 "source" = some (some .none))
    (a20 : PySem.W.findIn K (.ref C0) "copied" = some (some (.ref f20))) (i20 : PySem.W.isFn K (.ref f20) = true)
    (l20 : K.lookup f20 = some ⟨oc20, od20, .func (PySem.W.fnOf "copied" "Memory.copied" (defArgs s_Memory_copied) (defBody s_Memory_copied)
      (defScope s_Memory_copied) .none kV20 dc20 pm20 an20 cd20 ct20), sl20⟩)
    (c20 : PySem.W.codeIn K cd20 "Memory.copied" = true) (k20 : PySem.W.keepIn K (.ref f20) = true)
    (a21 : PySem.W.findIn K (.ref C0) "__eq__" = some (some (.ref f21))) (i21 : PySem.W.isFn K (.ref f21) = true)
    (l21 : K.lookup f21 = some ⟨oc21, od21, .func (PySem.W.fnOf "__eq__" "Memory.__eq__" (defArgs s_Memory_eq) (defBody s_Memory_eq)
      (defScope s_Memory_eq) .none kV21 dc21 pm21 an21 cd21 ct21), sl21⟩)
    (c21 : PySem.W.codeIn K cd21 "Memory.__eq__" = true) (k21 : PySem.W.keepIn K (.ref f21) = true)
    (a22 : PySem.W.findIn K (.ref C0) "__len__" = some (some (.ref f22))) (i22 : PySem.W.isFn K (.ref f22) = true)
    (l22 : K.lookup f22 = some ⟨oc22, od22, .func (PySem.W.fnOf "__len__" "Memory.__len__" (defArgs s_Memory_len) (defBody s_Memory_len)
      (defScope s_Memory_len) .none kV22 dc22 pm22 an22 cd22 ct22), sl22⟩)
    (c22 : PySem.W.codeIn K cd22 "Memory.__len__" = true) (k22 : PySem.W.keepIn K (.ref f22) = true)
    (a23 : PySem.W.findIn K (.ref C0) "__repr__" = some (some (.ref f23))) (i23 : PySem.W.isFn K (.ref f23) = true)
    (l23 : K.lookup f23 = some ⟨oc23, od23, .func (PySem.W.fnOf "__repr__" "Memory.__repr__" (defArgs s_Memory_repr) (defBody s_Memory_repr)
      (defScope s_Memory_repr) .none kV23 dc23 pm23 an23 cd23 ct23), sl23⟩)
    (c23 : PySem.W.codeIn K cd23 "Memory.__repr__" = true) (k23 : PySem.W.keepIn K (.ref f23) = true)
    (a24 : PySem.W.nsIn K mainGlobals "memory_of" = some (some (.ref f24)))
    (l24 : K.lookup f24 = some ⟨oc24, od24, .func (PySem.W.fnOf "memory_of" "memory_of" (defArgs s_memory_of) (defBody s_memory_of)
      (defScope s_memory_of) .none kV24 dc24 pm24 an24 cd24 ct24), sl24⟩)
    (c24 : PySem.W.codeIn K cd24 "memory_of" = true) (k24 : PySem.W.keepIn K (.ref f24) = true)
    (a25 : PySem.W.nsIn K mainGlobals "is_count" = some (some (.ref f25)))
    (l25 : K.lookup f25 = some ⟨oc25, od25, .func (PySem.W.fnOf "is_count" "is_count" (defArgs s_is_count) (defBody s_is_count)
      (defScope s_is_count) .none kV25 dc25 pm25 an25 cd25 ct25), sl25⟩)
    (c25 : PySem.W.codeIn K cd25 "is_count" = true) (k25 : PySem.W.keepIn K (.ref f25) = true)
    (a26 : PySem.W.findIn K (.ref C1) "__init__" = some (some (.ref f26))) (i26 : PySem.W.isFn K (.ref f26) = true)
    (l26 : K.lookup f26 = some ⟨oc26, od26, .func (PySem.W.fnOf "__init__" "Ties.__init__" (defArgs s_Ties_init) (defBody s_Ties_init)
      (defScope s_Ties_init) .none kV26 dc26 pm26 an26 cd26 ct26), sl26⟩)
    (c26 : PySem.W.codeIn K cd26 "Ties.__init__" = true) (k26 : PySem.W.keepIn K (.ref f26) = true)
    (a27 : PySem.W.findIn K (.ref C1) "ever" = some (some (.ref f27))) (i27 : PySem.W.isFn K (.ref f27) = true)
    (l27 : K.lookup f27 = some ⟨oc27, od27, .func (PySem.W.fnOf "ever" "Ties.ever" (defArgs s_Ties_ever) (defBody s_Ties_ever)
      (defScope s_Ties_ever) .none kV27 dc27 pm27 an27 cd27 ct27), sl27⟩)
    (c27 : PySem.W.codeIn K cd27 "Ties.ever" = true) (k27 : PySem.W.keepIn K (.ref f27) = true)
    (a28 : PySem.W.findIn K (.ref C1) "living" = some (some (.ref f28))) (i28 : PySem.W.isFn K (.ref f28) = true)
    (l28 : K.lookup f28 = some ⟨oc28, od28, .func (PySem.W.fnOf "living" "Ties.living" (defArgs s_Ties_living) (defBody s_Ties_living)
      (defScope s_Ties_living) .none kV28 dc28 pm28 an28 cd28 ct28), sl28⟩)
    (c28 : PySem.W.codeIn K cd28 "Ties.living" = true) (k28 : PySem.W.keepIn K (.ref f28) = true)
    (a29 : PySem.W.findIn K (.ref C1) "free" = some (some (.ref f29))) (i29 : PySem.W.isFn K (.ref f29) = true)
    (l29 : K.lookup f29 = some ⟨oc29, od29, .func (PySem.W.fnOf "free" "Ties.free" (defArgs s_Ties_free) (defBody s_Ties_free)
      (defScope s_Ties_free) .none kV29 dc29 pm29 an29 cd29 ct29), sl29⟩)
    (c29 : PySem.W.codeIn K cd29 "Ties.free" = true) (k29 : PySem.W.keepIn K (.ref f29) = true)
    (a30 : PySem.W.findIn K (.ref C1) "rows" = some (some (.ref f30))) (i30 : PySem.W.isFn K (.ref f30) = true)
    (l30 : K.lookup f30 = some ⟨oc30, od30, .func (PySem.W.fnOf "rows" "Ties.rows" (defArgs s_Ties_rows) (defBody s_Ties_rows)
      (defScope s_Ties_rows) .none kV30 dc30 pm30 an30 cd30 ct30), sl30⟩)
    (c30 : PySem.W.codeIn K cd30 "Ties.rows" = true) (k30 : PySem.W.keepIn K (.ref f30) = true)
    (a31 : PySem.W.findIn K (.ref C1) "lives" = some (some (.ref f31))) (i31 : PySem.W.isFn K (.ref f31) = true)
    (l31 : K.lookup f31 = some ⟨oc31, od31, .func (PySem.W.fnOf "lives" "Ties.lives" (defArgs s_Ties_lives) (defBody s_Ties_lives)
      (defScope s_Ties_lives) .none kV31 dc31 pm31 an31 cd31 ct31), sl31⟩)
    (c31 : PySem.W.codeIn K cd31 "Ties.lives" = true) (k31 : PySem.W.keepIn K (.ref f31) = true)
    (a32 : PySem.W.findIn K (.ref C1) "has" = some (some (.ref f32))) (i32 : PySem.W.isFn K (.ref f32) = true)
    (l32 : K.lookup f32 = some ⟨oc32, od32, .func (PySem.W.fnOf "has" "Ties.has" (defArgs s_Ties_has) (defBody s_Ties_has)
      (defScope s_Ties_has) .none kV32 dc32 pm32 an32 cd32 ct32), sl32⟩)
    (c32 : PySem.W.codeIn K cd32 "Ties.has" = true) (k32 : PySem.W.keepIn K (.ref f32) = true)
    (a33 : PySem.W.findIn K (.ref C1) "tied" = some (some (.ref f33))) (i33 : PySem.W.isFn K (.ref f33) = true)
    (l33 : K.lookup f33 = some ⟨oc33, od33, .func (PySem.W.fnOf "tied" "Ties.tied" (defArgs s_Ties_tied) (defBody s_Ties_tied)
      (defScope s_Ties_tied) .none kV33 dc33 pm33 an33 cd33 ct33), sl33⟩)
    (c33 : PySem.W.codeIn K cd33 "Ties.tied" = true) (k33 : PySem.W.keepIn K (.ref f33) = true)
    (a34 : PySem.W.findIn K (.ref C1) "way" = some (some (.ref f34))) (i34 : PySem.W.isFn K (.ref f34) = true)
    (l34 : K.lookup f34 = some ⟨oc34, od34, .func (PySem.W.fnOf "way" "Ties.way" (defArgs s_Ties_way) (defBody s_Ties_way)
      (defScope s_Ties_way) .none kV34 dc34 pm34 an34 cd34 ct34), sl34⟩)
    (c34 : PySem.W.codeIn K cd34 "Ties.way" = true) (k34 : PySem.W.keepIn K (.ref f34) = true)
    (a35 : PySem.W.findIn K (.ref C1) "spread" = some (some (.ref f35))) (i35 : PySem.W.isFn K (.ref f35) = true)
    (l35 : K.lookup f35 = some ⟨oc35, od35, .func (PySem.W.fnOf "spread" "Ties.spread" (defArgs s_Ties_spread) (defBody s_Ties_spread)
      (defScope s_Ties_spread) .none kV35 dc35 pm35 an35 cd35 ct35), sl35⟩)
    (c35 : PySem.W.codeIn K cd35 "Ties.spread" = true) (k35 : PySem.W.keepIn K (.ref f35) = true)
    (a36 : PySem.W.findIn K (.ref C1) "fork" = some (some (.ref f36))) (i36 : PySem.W.isFn K (.ref f36) = true)
    (l36 : K.lookup f36 = some ⟨oc36, od36, .func (PySem.W.fnOf "fork" "Ties.fork" (defArgs s_Ties_fork) (defBody s_Ties_fork)
      (defScope s_Ties_fork) .none kV36 dc36 pm36 an36 cd36 ct36), sl36⟩)
    (c36 : PySem.W.codeIn K cd36 "Ties.fork" = true) (k36 : PySem.W.keepIn K (.ref f36) = true)
    (a37 : PySem.W.findIn K (.ref C1) "end" = some (some (.ref f37))) (i37 : PySem.W.isFn K (.ref f37) = true)
    (l37 : K.lookup f37 = some ⟨oc37, od37, .func (PySem.W.fnOf "end" "Ties.end" (defArgs s_Ties_end) (defBody s_Ties_end)
      (defScope s_Ties_end) .none kV37 dc37 pm37 an37 cd37 ct37), sl37⟩)
    (c37 : PySem.W.codeIn K cd37 "Ties.end" = true) (k37 : PySem.W.keepIn K (.ref f37) = true)
    (a38 : PySem.W.findIn K (.ref C1) "may_go" = some (some (.ref f38))) (i38 : PySem.W.isFn K (.ref f38) = true)
    (l38 : K.lookup f38 = some ⟨oc38, od38, .func (PySem.W.fnOf "may_go" "Ties.may_go" (defArgs s_Ties_may_go) (defBody s_Ties_may_go)
      (defScope s_Ties_may_go) .none kV38 dc38 pm38 an38 cd38 ct38), sl38⟩)
    (c38 : PySem.W.codeIn K cd38 "Ties.may_go" = true) (k38 : PySem.W.keepIn K (.ref f38) = true)
    (a39 : PySem.W.findIn K (.ref C1) "taken_out" = some (some (.ref f39))) (i39 : PySem.W.isFn K (.ref f39) = true)
    (l39 : K.lookup f39 = some ⟨oc39, od39, .func (PySem.W.fnOf "taken_out" "Ties.taken_out" (defArgs s_Ties_taken_out) (defBody s_Ties_taken_out)
      (defScope s_Ties_taken_out) .none kV39 dc39 pm39 an39 cd39 ct39), sl39⟩)
    (c39 : PySem.W.codeIn K cd39 "Ties.taken_out" = true) (k39 : PySem.W.keepIn K (.ref f39) = true)
    (a40 : PySem.W.findIn K (.ref C1) "copied" = some (some (.ref f40))) (i40 : PySem.W.isFn K (.ref f40) = true)
    (l40 : K.lookup f40 = some ⟨oc40, od40, .func (PySem.W.fnOf "copied" "Ties.copied" (defArgs s_Ties_copied) (defBody s_Ties_copied)
      (defScope s_Ties_copied) .none kV40 dc40 pm40 an40 cd40 ct40), sl40⟩)
    (c40 : PySem.W.codeIn K cd40 "Ties.copied" = true) (k40 : PySem.W.keepIn K (.ref f40) = true)
    (a41 : PySem.W.findIn K (.ref C1) "__eq__" = some (some (.ref f41))) (i41 : PySem.W.isFn K (.ref f41) = true)
    (l41 : K.lookup f41 = some ⟨oc41, od41, .func (PySem.W.fnOf "__eq__" "Ties.__eq__" (defArgs s_Ties_eq) (defBody s_Ties_eq)
      (defScope s_Ties_eq) .none kV41 dc41 pm41 an41 cd41 ct41), sl41⟩)
    (c41 : PySem.W.codeIn K cd41 "Ties.__eq__" = true) (k41 : PySem.W.keepIn K (.ref f41) = true)
    (a42 : PySem.W.findIn K (.ref C1) "told" = some (some (.ref f42))) (i42 : PySem.W.isFn K (.ref f42) = true)
    (l42 : K.lookup f42 = some ⟨oc42, od42, .func (PySem.W.fnOf "told" "Ties.told" (defArgs s_Ties_told) (defBody s_Ties_told)
      (defScope s_Ties_told) .none kV42 dc42 pm42 an42 cd42 ct42), sl42⟩)
    (c42 : PySem.W.codeIn K cd42 "Ties.told" = true) (k42 : PySem.W.keepIn K (.ref f42) = true)
    (a43 : PySem.W.findIn K (.ref C1) "__len__" = some (some (.ref f43))) (i43 : PySem.W.isFn K (.ref f43) = true)
    (l43 : K.lookup f43 = some ⟨oc43, od43, .func (PySem.W.fnOf "__len__" "Ties.__len__" (defArgs s_Ties_len) (defBody s_Ties_len)
      (defScope s_Ties_len) .none kV43 dc43 pm43 an43 cd43 ct43), sl43⟩)
    (c43 : PySem.W.codeIn K cd43 "Ties.__len__" = true) (k43 : PySem.W.keepIn K (.ref f43) = true)
    (a44 : PySem.W.nsIn K mainGlobals "made" = some (some (.ref f44)))
    (l44 : K.lookup f44 = some ⟨oc44, od44, .func (PySem.W.fnOf "made" "made" (defArgs s_made) (defBody s_made)
      (defScope s_made) .none kV44 dc44 pm44 an44 cd44 ct44), sl44⟩)
    (c44 : PySem.W.codeIn K cd44 "made" = true) (k44 : PySem.W.keepIn K (.ref f44) = true)
    (a45 : PySem.W.findIn K (.ref C2) "__init__" = some (some (.ref f45))) (i45 : PySem.W.isFn K (.ref f45) = true)
    (l45 : K.lookup f45 = some ⟨oc45, od45, .func (PySem.W.fnOf "__init__" "Store.__init__" (defArgs s_Store_init) (defBody s_Store_init)
      (defScope s_Store_init) .none kV45 dc45 pm45 an45 cd45 ct45), sl45⟩)
    (c45 : PySem.W.codeIn K cd45 "Store.__init__" = true) (k45 : PySem.W.keepIn K (.ref f45) = true)
    (a46 : PySem.W.findIn K (.ref C2) "size" = some (some (.ref f46))) (i46 : PySem.W.isFn K (.ref f46) = true)
    (l46 : K.lookup f46 = some ⟨oc46, od46, .func (PySem.W.fnOf "size" "Store.size" (defArgs s_Store_size) (defBody s_Store_size)
      (defScope s_Store_size) .none kV46 dc46 pm46 an46 cd46 ct46), sl46⟩)
    (c46 : PySem.W.codeIn K cd46 "Store.size" = true) (k46 : PySem.W.keepIn K (.ref f46) = true)
    (a47 : PySem.W.findIn K (.ref C2) "ties" = some (some (.ref f47))) (i47 : PySem.W.isFn K (.ref f47) = true)
    (l47 : K.lookup f47 = some ⟨oc47, od47, .func (PySem.W.fnOf "ties" "Store.ties" (defArgs s_Store_ties) (defBody s_Store_ties)
      (defScope s_Store_ties) .none kV47 dc47 pm47 an47 cd47 ct47), sl47⟩)
    (c47 : PySem.W.codeIn K cd47 "Store.ties" = true) (k47 : PySem.W.keepIn K (.ref f47) = true)
    (a48 : PySem.W.findIn K (.ref C2) "living" = some (some (.ref f48))) (i48 : PySem.W.isFn K (.ref f48) = true)
    (l48 : K.lookup f48 = some ⟨oc48, od48, .func (PySem.W.fnOf "living" "Store.living" (defArgs s_Store_living) (defBody s_Store_living)
      (defScope s_Store_living) .none kV48 dc48 pm48 an48 cd48 ct48), sl48⟩)
    (c48 : PySem.W.codeIn K cd48 "Store.living" = true) (k48 : PySem.W.keepIn K (.ref f48) = true)
    (a49 : PySem.W.findIn K (.ref C2) "own" = some (some (.ref f49))) (i49 : PySem.W.isFn K (.ref f49) = true)
    (l49 : K.lookup f49 = some ⟨oc49, od49, .func (PySem.W.fnOf "own" "Store.own" (defArgs s_Store_own) (defBody s_Store_own)
      (defScope s_Store_own) .none kV49 dc49 pm49 an49 cd49 ct49), sl49⟩)
    (c49 : PySem.W.codeIn K cd49 "Store.own" = true) (k49 : PySem.W.keepIn K (.ref f49) = true)
    (a50 : PySem.W.findIn K (.ref C2) "memory" = some (some (.ref f50))) (i50 : PySem.W.isFn K (.ref f50) = true)
    (l50 : K.lookup f50 = some ⟨oc50, od50, .func (PySem.W.fnOf "memory" "Store.memory" (defArgs s_Store_memory) (defBody s_Store_memory)
      (defScope s_Store_memory) .none kV50 dc50 pm50 an50 cd50 ct50), sl50⟩)
    (c50 : PySem.W.codeIn K cd50 "Store.memory" = true) (k50 : PySem.W.keepIn K (.ref f50) = true)
    (a51 : PySem.W.findIn K (.ref C2) "at" = some (some (.ref f51))) (i51 : PySem.W.isFn K (.ref f51) = true)
    (l51 : K.lookup f51 = some ⟨oc51, od51, .func (PySem.W.fnOf "at" "Store.at" (defArgs s_Store_at) (defBody s_Store_at)
      (defScope s_Store_at) .none kV51 dc51 pm51 an51 cd51 ct51), sl51⟩)
    (c51 : PySem.W.codeIn K cd51 "Store.at" = true) (k51 : PySem.W.keepIn K (.ref f51) = true)
    (a52 : PySem.W.findIn K (.ref C2) "fork" = some (some (.ref f52))) (i52 : PySem.W.isFn K (.ref f52) = true)
    (l52 : K.lookup f52 = some ⟨oc52, od52, .func (PySem.W.fnOf "fork" "Store.fork" (defArgs s_Store_fork) (defBody s_Store_fork)
      (defScope s_Store_fork) .none kV52 dc52 pm52 an52 cd52 ct52), sl52⟩)
    (c52 : PySem.W.codeIn K cd52 "Store.fork" = true) (k52 : PySem.W.keepIn K (.ref f52) = true)
    (a53 : PySem.W.findIn K (.ref C2) "end" = some (some (.ref f53))) (i53 : PySem.W.isFn K (.ref f53) = true)
    (l53 : K.lookup f53 = some ⟨oc53, od53, .func (PySem.W.fnOf "end" "Store.end" (defArgs s_Store_end) (defBody s_Store_end)
      (defScope s_Store_end) .none kV53 dc53 pm53 an53 cd53 ct53), sl53⟩)
    (c53 : PySem.W.codeIn K cd53 "Store.end" = true) (k53 : PySem.W.keepIn K (.ref f53) = true)
    (a54 : PySem.W.findIn K (.ref C2) "put" = some (some (.ref f54))) (i54 : PySem.W.isFn K (.ref f54) = true)
    (l54 : K.lookup f54 = some ⟨oc54, od54, .func (PySem.W.fnOf "put" "Store.put" (defArgs s_Store_put) (defBody s_Store_put)
      (defScope s_Store_put) .none kV54 dc54 pm54 an54 cd54 ct54), sl54⟩)
    (c54 : PySem.W.codeIn K cd54 "Store.put" = true) (k54 : PySem.W.keepIn K (.ref f54) = true)
    (a55 : PySem.W.findIn K (.ref C2) "fill" = some (some (.ref f55))) (i55 : PySem.W.isFn K (.ref f55) = true)
    (l55 : K.lookup f55 = some ⟨oc55, od55, .func (PySem.W.fnOf "fill" "Store.fill" (defArgs s_Store_fill) (defBody s_Store_fill)
      (defScope s_Store_fill) .none kV55 dc55 pm55 an55 cd55 ct55), sl55⟩)
    (c55 : PySem.W.codeIn K cd55 "Store.fill" = true) (k55 : PySem.W.keepIn K (.ref f55) = true)
    (a56 : PySem.W.findIn K (.ref C2) "bring" = some (some (.ref f56))) (i56 : PySem.W.isFn K (.ref f56) = true)
    {D56 : Addr}
    (l56 : K.lookup f56 = some ⟨oc56, od56, .func (PySem.W.fnOf "bring" "Store.bring" (defArgs s_Store_bring) (defBody s_Store_bring)
      (defScope s_Store_bring) .none (.ref D56) dc56 pm56 an56 cd56 ct56), sl56⟩)
    (c56 : PySem.W.codeIn K cd56 "Store.bring" = true) (k56 : PySem.W.keepIn K (.ref f56) = true)
    (q56_0 : PySem.W.nsIn K D56 "source" = some (some .none))
    (a57 : PySem.W.findIn K (.ref C2) "all_columns" = some (some (.ref f57))) (i57 : PySem.W.isFn K (.ref f57) = true)
    (l57 : K.lookup f57 = some ⟨oc57, od57, .func (PySem.W.fnOf "all_columns" "Store.all_columns" (defArgs s_Store_all_columns) (defBody s_Store_all_columns)
      (defScope s_Store_all_columns) .none kV57 dc57 pm57 an57 cd57 ct57), sl57⟩)
    (c57 : PySem.W.codeIn K cd57 "Store.all_columns" = true) (k57 : PySem.W.keepIn K (.ref f57) = true)
    (a58 : PySem.W.findIn K (.ref C2) "cost" = some (some (.ref f58))) (i58 : PySem.W.isFn K (.ref f58) = true)
    (l58 : K.lookup f58 = some ⟨oc58, od58, .func (PySem.W.fnOf "cost" "Store.cost" (defArgs s_Store_cost) (defBody s_Store_cost)
      (defScope s_Store_cost) .none kV58 dc58 pm58 an58 cd58 ct58), sl58⟩)
    (c58 : PySem.W.codeIn K cd58 "Store.cost" = true) (k58 : PySem.W.keepIn K (.ref f58) = true)
    (a59 : PySem.W.findIn K (.ref C2) "keepings" = some (some (.ref f59))) (i59 : PySem.W.isFn K (.ref f59) = true)
    (l59 : K.lookup f59 = some ⟨oc59, od59, .func (PySem.W.fnOf "keepings" "Store.keepings" (defArgs s_Store_keepings) (defBody s_Store_keepings)
      (defScope s_Store_keepings) .none kV59 dc59 pm59 an59 cd59 ct59), sl59⟩)
    (c59 : PySem.W.codeIn K cd59 "Store.keepings" = true) (k59 : PySem.W.keepIn K (.ref f59) = true)
    (a60 : PySem.W.findIn K (.ref C2) "kept" = some (some (.ref f60))) (i60 : PySem.W.isFn K (.ref f60) = true)
    (l60 : K.lookup f60 = some ⟨oc60, od60, .func (PySem.W.fnOf "kept" "Store.kept" (defArgs s_Store_kept) (defBody s_Store_kept)
      (defScope s_Store_kept) .none kV60 dc60 pm60 an60 cd60 ct60), sl60⟩)
    (c60 : PySem.W.codeIn K cd60 "Store.kept" = true) (k60 : PySem.W.keepIn K (.ref f60) = true)
    (a61 : PySem.W.findIn K (.ref C2) "sure" = some (some (.ref f61))) (i61 : PySem.W.isFn K (.ref f61) = true)
    (l61 : K.lookup f61 = some ⟨oc61, od61, .func (PySem.W.fnOf "sure" "Store.sure" (defArgs s_Store_sure) (defBody s_Store_sure)
      (defScope s_Store_sure) .none kV61 dc61 pm61 an61 cd61 ct61), sl61⟩)
    (c61 : PySem.W.codeIn K cd61 "Store.sure" = true) (k61 : PySem.W.keepIn K (.ref f61) = true)
    (a62 : PySem.W.findIn K (.ref C2) "held" = some (some (.ref f62))) (i62 : PySem.W.isFn K (.ref f62) = true)
    (l62 : K.lookup f62 = some ⟨oc62, od62, .func (PySem.W.fnOf "held" "Store.held" (defArgs s_Store_held) (defBody s_Store_held)
      (defScope s_Store_held) .none kV62 dc62 pm62 an62 cd62 ct62), sl62⟩)
    (c62 : PySem.W.codeIn K cd62 "Store.held" = true) (k62 : PySem.W.keepIn K (.ref f62) = true)
    (a63 : PySem.W.findIn K (.ref C2) "copied" = some (some (.ref f63))) (i63 : PySem.W.isFn K (.ref f63) = true)
    (l63 : K.lookup f63 = some ⟨oc63, od63, .func (PySem.W.fnOf "copied" "Store.copied" (defArgs s_Store_copied) (defBody s_Store_copied)
      (defScope s_Store_copied) .none kV63 dc63 pm63 an63 cd63 ct63), sl63⟩)
    (c63 : PySem.W.codeIn K cd63 "Store.copied" = true) (k63 : PySem.W.keepIn K (.ref f63) = true)
    (a64 : PySem.W.findIn K (.ref C2) "__eq__" = some (some (.ref f64))) (i64 : PySem.W.isFn K (.ref f64) = true)
    (l64 : K.lookup f64 = some ⟨oc64, od64, .func (PySem.W.fnOf "__eq__" "Store.__eq__" (defArgs s_Store_eq) (defBody s_Store_eq)
      (defScope s_Store_eq) .none kV64 dc64 pm64 an64 cd64 ct64), sl64⟩)
    (c64 : PySem.W.codeIn K cd64 "Store.__eq__" = true) (k64 : PySem.W.keepIn K (.ref f64) = true)
    (a65 : PySem.W.findIn K (.ref C2) "__len__" = some (some (.ref f65))) (i65 : PySem.W.isFn K (.ref f65) = true)
    (l65 : K.lookup f65 = some ⟨oc65, od65, .func (PySem.W.fnOf "__len__" "Store.__len__" (defArgs s_Store_len) (defBody s_Store_len)
      (defScope s_Store_len) .none kV65 dc65 pm65 an65 cd65 ct65), sl65⟩)
    (c65 : PySem.W.codeIn K cd65 "Store.__len__" = true) (k65 : PySem.W.keepIn K (.ref f65) = true)
    (a66 : PySem.W.nsIn K mainGlobals "store_of" = some (some (.ref f66)))
    (l66 : K.lookup f66 = some ⟨oc66, od66, .func (PySem.W.fnOf "store_of" "store_of" (defArgs s_store_of) (defBody s_store_of)
      (defScope s_store_of) .none kV66 dc66 pm66 an66 cd66 ct66), sl66⟩)
    (c66 : PySem.W.codeIn K cd66 "store_of" = true) (k66 : PySem.W.keepIn K (.ref f66) = true)
    (a67 : PySem.W.nsIn K mainGlobals "_law_pot" = some (some (.ref f67)))
    (l67 : K.lookup f67 = some ⟨oc67, od67, .func (PySem.W.fnOf "_law_pot" "_law_pot" (defArgs s_law_pot) (defBody s_law_pot)
      (defScope s_law_pot) .none kV67 dc67 pm67 an67 cd67 ct67), sl67⟩)
    (c67 : PySem.W.codeIn K cd67 "_law_pot" = true) (k67 : PySem.W.keepIn K (.ref f67) = true)
    (a68 : PySem.W.nsIn K mainGlobals "_law_take" = some (some (.ref f68)))
    (l68 : K.lookup f68 = some ⟨oc68, od68, .func (PySem.W.fnOf "_law_take" "_law_take" (defArgs s_law_take) (defBody s_law_take)
      (defScope s_law_take) .none kV68 dc68 pm68 an68 cd68 ct68), sl68⟩)
    (c68 : PySem.W.codeIn K cd68 "_law_take" = true) (k68 : PySem.W.keepIn K (.ref f68) = true)
    (a69 : PySem.W.nsIn K mainGlobals "_law_among" = some (some (.ref f69)))
    (l69 : K.lookup f69 = some ⟨oc69, od69, .func (PySem.W.fnOf "_law_among" "_law_among" (defArgs s_law_among) (defBody s_law_among)
      (defScope s_law_among) .none kV69 dc69 pm69 an69 cd69 ct69), sl69⟩)
    (c69 : PySem.W.codeIn K cd69 "_law_among" = true) (k69 : PySem.W.keepIn K (.ref f69) = true)
    (a70 : PySem.W.nsIn K mainGlobals "_law_wide" = some (some (.ref f70)))
    (l70 : K.lookup f70 = some ⟨oc70, od70, .func (PySem.W.fnOf "_law_wide" "_law_wide" (defArgs s_law_wide) (defBody s_law_wide)
      (defScope s_law_wide) .none kV70 dc70 pm70 an70 cd70 ct70), sl70⟩)
    (c70 : PySem.W.codeIn K cd70 "_law_wide" = true) (k70 : PySem.W.keepIn K (.ref f70) = true)
    (a71 : PySem.W.nsIn K mainGlobals "_law_number" = some (some (.ref f71)))
    (l71 : K.lookup f71 = some ⟨oc71, od71, .func (PySem.W.fnOf "_law_number" "_law_number" (defArgs s_law_number) (defBody s_law_number)
      (defScope s_law_number) .none kV71 dc71 pm71 an71 cd71 ct71), sl71⟩)
    (c71 : PySem.W.codeIn K cd71 "_law_number" = true) (k71 : PySem.W.keepIn K (.ref f71) = true)
    (a72 : PySem.W.nsIn K mainGlobals "_law_part" = some (some (.ref f72)))
    (l72 : K.lookup f72 = some ⟨oc72, od72, .func (PySem.W.fnOf "_law_part" "_law_part" (defArgs s_law_part) (defBody s_law_part)
      (defScope s_law_part) .none kV72 dc72 pm72 an72 cd72 ct72), sl72⟩)
    (c72 : PySem.W.codeIn K cd72 "_law_part" = true) (k72 : PySem.W.keepIn K (.ref f72) = true)
    (a73 : PySem.W.nsIn K mainGlobals "_law_joined" = some (some (.ref f73)))
    (l73 : K.lookup f73 = some ⟨oc73, od73, .func (PySem.W.fnOf "_law_joined" "_law_joined" (defArgs s_law_joined) (defBody s_law_joined)
      (defScope s_law_joined) .none kV73 dc73 pm73 an73 cd73 ct73), sl73⟩)
    (c73 : PySem.W.codeIn K cd73 "_law_joined" = true) (k73 : PySem.W.keepIn K (.ref f73) = true)
    (a74 : PySem.W.nsIn K mainGlobals "_law_with" = some (some (.ref f74)))
    (l74 : K.lookup f74 = some ⟨oc74, od74, .func (PySem.W.fnOf "_law_with" "_law_with" (defArgs s_law_with) (defBody s_law_with)
      (defScope s_law_with) .none kV74 dc74 pm74 an74 cd74 ct74), sl74⟩)
    (c74 : PySem.W.codeIn K cd74 "_law_with" = true) (k74 : PySem.W.keepIn K (.ref f74) = true)
    (a75 : PySem.W.nsIn K mainGlobals "_law_model" = some (some (.ref f75)))
    (l75 : K.lookup f75 = some ⟨oc75, od75, .func (PySem.W.fnOf "_law_model" "_law_model" (defArgs s_law_model) (defBody s_law_model)
      (defScope s_law_model) .none kV75 dc75 pm75 an75 cd75 ct75), sl75⟩)
    (c75 : PySem.W.codeIn K cd75 "_law_model" = true) (k75 : PySem.W.keepIn K (.ref f75) = true)
    (a76 : PySem.W.nsIn K mainGlobals "_law_forked" = some (some (.ref f76)))
    (l76 : K.lookup f76 = some ⟨oc76, od76, .func (PySem.W.fnOf "_law_forked" "_law_forked" (defArgs s_law_forked) (defBody s_law_forked)
      (defScope s_law_forked) .none kV76 dc76 pm76 an76 cd76 ct76), sl76⟩)
    (c76 : PySem.W.codeIn K cd76 "_law_forked" = true) (k76 : PySem.W.keepIn K (.ref f76) = true)
    (a77 : PySem.W.nsIn K mainGlobals "_law_dropped" = some (some (.ref f77)))
    (l77 : K.lookup f77 = some ⟨oc77, od77, .func (PySem.W.fnOf "_law_dropped" "_law_dropped" (defArgs s_law_dropped) (defBody s_law_dropped)
      (defScope s_law_dropped) .none kV77 dc77 pm77 an77 cd77 ct77), sl77⟩)
    (c77 : PySem.W.codeIn K cd77 "_law_dropped" = true) (k77 : PySem.W.keepIn K (.ref f77) = true)
    (a78 : PySem.W.nsIn K mainGlobals "_law_ended" = some (some (.ref f78)))
    (l78 : K.lookup f78 = some ⟨oc78, od78, .func (PySem.W.fnOf "_law_ended" "_law_ended" (defArgs s_law_ended) (defBody s_law_ended)
      (defScope s_law_ended) .none kV78 dc78 pm78 an78 cd78 ct78), sl78⟩)
    (c78 : PySem.W.codeIn K cd78 "_law_ended" = true) (k78 : PySem.W.keepIn K (.ref f78) = true)
    (a79 : PySem.W.nsIn K mainGlobals "_law_pairs" = some (some (.ref f79)))
    (l79 : K.lookup f79 = some ⟨oc79, od79, .func (PySem.W.fnOf "_law_pairs" "_law_pairs" (defArgs s_law_pairs) (defBody s_law_pairs)
      (defScope s_law_pairs) .none kV79 dc79 pm79 an79 cd79 ct79), sl79⟩)
    (c79 : PySem.W.codeIn K cd79 "_law_pairs" = true) (k79 : PySem.W.keepIn K (.ref f79) = true)
    (a80 : PySem.W.nsIn K mainGlobals "_law_loose" = some (some (.ref f80)))
    (l80 : K.lookup f80 = some ⟨oc80, od80, .func (PySem.W.fnOf "_law_loose" "_law_loose" (defArgs s_law_loose) (defBody s_law_loose)
      (defScope s_law_loose) .none kV80 dc80 pm80 an80 cd80 ct80), sl80⟩)
    (c80 : PySem.W.codeIn K cd80 "_law_loose" = true) (k80 : PySem.W.keepIn K (.ref f80) = true)
    (a81 : PySem.W.nsIn K mainGlobals "_law_spot" = some (some (.ref f81)))
    (l81 : K.lookup f81 = some ⟨oc81, od81, .func (PySem.W.fnOf "_law_spot" "_law_spot" (defArgs s_law_spot) (defBody s_law_spot)
      (defScope s_law_spot) .none kV81 dc81 pm81 an81 cd81 ct81), sl81⟩)
    (c81 : PySem.W.codeIn K cd81 "_law_spot" = true) (k81 : PySem.W.keepIn K (.ref f81) = true)
    (a82 : PySem.W.nsIn K mainGlobals "_law_written" = some (some (.ref f82)))
    (l82 : K.lookup f82 = some ⟨oc82, od82, .func (PySem.W.fnOf "_law_written" "_law_written" (defArgs s_law_written) (defBody s_law_written)
      (defScope s_law_written) .none kV82 dc82 pm82 an82 cd82 ct82), sl82⟩)
    (c82 : PySem.W.codeIn K cd82 "_law_written" = true) (k82 : PySem.W.keepIn K (.ref f82) = true)
    (a83 : PySem.W.nsIn K mainGlobals "_law_deed" = some (some (.ref f83)))
    (l83 : K.lookup f83 = some ⟨oc83, od83, .func (PySem.W.fnOf "_law_deed" "_law_deed" (defArgs s_law_deed) (defBody s_law_deed)
      (defScope s_law_deed) .none kV83 dc83 pm83 an83 cd83 ct83), sl83⟩)
    (c83 : PySem.W.codeIn K cd83 "_law_deed" = true) (k83 : PySem.W.keepIn K (.ref f83) = true)
    (a84 : PySem.W.nsIn K mainGlobals "_law_stands" = some (some (.ref f84)))
    (l84 : K.lookup f84 = some ⟨oc84, od84, .func (PySem.W.fnOf "_law_stands" "_law_stands" (defArgs s_law_stands) (defBody s_law_stands)
      (defScope s_law_stands) .none kV84 dc84 pm84 an84 cd84 ct84), sl84⟩)
    (c84 : PySem.W.codeIn K cd84 "_law_stands" = true) (k84 : PySem.W.keepIn K (.ref f84) = true)
    (a85 : PySem.W.nsIn K mainGlobals "_law_own" = some (some (.ref f85)))
    (l85 : K.lookup f85 = some ⟨oc85, od85, .func (PySem.W.fnOf "_law_own" "_law_own" (defArgs s_law_own) (defBody s_law_own)
      (defScope s_law_own) .none kV85 dc85 pm85 an85 cd85 ct85), sl85⟩)
    (c85 : PySem.W.codeIn K cd85 "_law_own" = true) (k85 : PySem.W.keepIn K (.ref f85) = true)
    (a86 : PySem.W.nsIn K mainGlobals "_law_nothing_told" = some (some (.ref f86)))
    (l86 : K.lookup f86 = some ⟨oc86, od86, .func (PySem.W.fnOf "_law_nothing_told" "_law_nothing_told" (defArgs s_law_nothing_told) (defBody s_law_nothing_told)
      (defScope s_law_nothing_told) .none kV86 dc86 pm86 an86 cd86 ct86), sl86⟩)
    (c86 : PySem.W.codeIn K cd86 "_law_nothing_told" = true) (k86 : PySem.W.keepIn K (.ref f86) = true)
    (a87 : PySem.W.nsIn K mainGlobals "law" = some (some (.ref f87)))
    (l87 : K.lookup f87 = some ⟨oc87, od87, .func (PySem.W.fnOf "law" "law" (defArgs s_law) (defBody s_law)
      (defScope s_law) .none kV87 dc87 pm87 an87 cd87 ct87), sl87⟩)
    (c87 : PySem.W.codeIn K cd87 "law" = true) (k87 : PySem.W.keepIn K (.ref f87) = true)
    (pg0 : PySem.W.plainGet K C0 Str.empty = true) (hd0 : PySem.W.hasDictIn K C0 = true)
    (po0 : PySem.W.plainOver K C0 = true) (sa0 : PySem.W.findIn K (.ref C0) "__setattr__" = some (some (.builtin "object.__setattr__")))
    (mk0 : PySem.W.makesIn K C0 = true) (kc0 : PySem.W.keepIn K (.ref C0) = true)
    (na0_pairs : PySem.W.findIn K (.ref C0) "pairs" = some none)
    (na0_wide : PySem.W.findIn K (.ref C0) "wide" = some none)
    (pg1 : PySem.W.plainGet K C1 Str.empty = true) (hd1 : PySem.W.hasDictIn K C1 = true)
    (po1 : PySem.W.plainOver K C1 = true) (sa1 : PySem.W.findIn K (.ref C1) "__setattr__" = some (some (.builtin "object.__setattr__")))
    (mk1 : PySem.W.makesIn K C1 = true) (kc1 : PySem.W.keepIn K (.ref C1) = true)
    (na1_near : PySem.W.findIn K (.ref C1) "near" = some none)
    (na1_own_ever : PySem.W.findIn K (.ref C1) "own_ever" = some none)
    (na1_own_living : PySem.W.findIn K (.ref C1) "own_living" = some none)
    (pg2 : PySem.W.plainGet K C2 Str.empty = true) (hd2 : PySem.W.hasDictIn K C2 = true)
    (po2 : PySem.W.plainOver K C2 = true) (sa2 : PySem.W.findIn K (.ref C2) "__setattr__" = some (some (.builtin "object.__setattr__")))
    (mk2 : PySem.W.makesIn K C2 = true) (kc2 : PySem.W.keepIn K (.ref C2) = true)
    (na2_kept_by_world : PySem.W.findIn K (.ref C2) "kept_by_world" = some none)
    (na2_own_size : PySem.W.findIn K (.ref C2) "own_size" = some none)
    (na2_own_ties : PySem.W.findIn K (.ref C2) "own_ties" = some none)
    (on : PySem.W.specialIn K (.builtin "object.__class__") "__get__" = some (some (.builtin "getset_descriptor.__get__"))) (ot : PySem.W.takesIn K (.builtin "object.__class__") = some true)
    (oa0 : PySem.W.findIn K (.ref C0) "__class__" = some (some (.builtin "object.__class__"))) (om0 : PySem.W.mroIn K C0 (.type "object") = some true)
    (oc0_ : PySem.W.isClsIn K C0 = true) (oy0 : PySem.W.typeIn K (.ref C0) = some (.type "type"))
    (nn0 : PySem.W.findIn K (.ref C0) "__ne__" = some (some (.builtin "object.__ne__")))
    (oa1 : PySem.W.findIn K (.ref C1) "__class__" = some (some (.builtin "object.__class__"))) (om1 : PySem.W.mroIn K C1 (.type "object") = some true)
    (oc1_ : PySem.W.isClsIn K C1 = true) (oy1 : PySem.W.typeIn K (.ref C1) = some (.type "type"))
    (nn1 : PySem.W.findIn K (.ref C1) "__ne__" = some (some (.builtin "object.__ne__")))
    (oa2 : PySem.W.findIn K (.ref C2) "__class__" = some (some (.builtin "object.__class__"))) (om2 : PySem.W.mroIn K C2 (.type "object") = some true)
    (oc2_ : PySem.W.isClsIn K C2 = true) (oy2 : PySem.W.typeIn K (.ref C2) = some (.type "type"))
    (nn2 : PySem.W.findIn K (.ref C2) "__ne__" = some (some (.builtin "object.__ne__")))
    {t_FEWEST_TIES : Tok} (g_FEWEST_TIES : PySem.W.nsIn K mainGlobals "FEWEST_TIES" = some (some (.int 3 t_FEWEST_TIES)))
    {t_LARGEST : Tok} (g_LARGEST : PySem.W.nsIn K mainGlobals "LARGEST" = some (some (.int 1000000000000000000 t_LARGEST)))
    (z_LookupError : PySem.W.nsIn K mainGlobals "LookupError" = some none)
    (z_ValueError : PySem.W.nsIn K mainGlobals "ValueError" = some none)
    (z_abs : PySem.W.nsIn K mainGlobals "abs" = some none)
    (z_all : PySem.W.nsIn K mainGlobals "all" = some none)
    (z_any : PySem.W.nsIn K mainGlobals "any" = some none)
    (z_bool : PySem.W.nsIn K mainGlobals "bool" = some none)
    (z_divmod : PySem.W.nsIn K mainGlobals "divmod" = some none)
    (z_int : PySem.W.nsIn K mainGlobals "int" = some none)
    (z_isinstance : PySem.W.nsIn K mainGlobals "isinstance" = some none)
    (z_len : PySem.W.nsIn K mainGlobals "len" = some none)
    (z_list : PySem.W.nsIn K mainGlobals "list" = some none)
    (z_max : PySem.W.nsIn K mainGlobals "max" = some none)
    (z_min : PySem.W.nsIn K mainGlobals "min" = some none)
    (z_range : PySem.W.nsIn K mainGlobals "range" = some none)
    (z_repr : PySem.W.nsIn K mainGlobals "repr" = some none)
    (z_sorted : PySem.W.nsIn K mainGlobals "sorted" = some none)
    (z_sum : PySem.W.nsIn K mainGlobals "sum" = some none)
    (z_tuple : PySem.W.nsIn K mainGlobals "tuple" = some none)
    (z_zip : PySem.W.nsIn K mainGlobals "zip" = some none)
    : ∃ fd : FuncData, (∀ (s : Shared) (v : Value), BindsTo s fd ⟨[v], []⟩ [("_law_script", v)]) ∧
      ∀ base : Heap, K.In base → base.Ns mainGlobals mg →
        FnG l.prog w K mg base 12 fa fd ["_law_script"] (sp_law K) := by
  have e := hfa.symm.trans (PySem.W.mg_of X N a87)
  cases e
  have F0 := fund0 (st := s_wall) l0 c0 k0
  have b0 := bindN (ps := ["k"]) F0 fun _ _ _ _ _ _ us hl => match us, hl with | [_], _ => rfl
  have F1 := fund0 (st := s_is_number) l1 c1 k1
  have b1 := bindN (ps := ["thing"]) F1 fun _ _ _ _ _ _ us hl => match us, hl with | [_], _ => rfl
  have F2 := fund0 (st := s_is_whole) l2 c2 k2
  have b2 := bindN (ps := ["thing", "least", "most"]) F2 fun _ _ _ _ _ _ us hl => match us, hl with | [_, _, _], _ => rfl
  have F3 := fund0 (st := s_is_size) l3 c3 k3
  have b3 := bindN (ps := ["thing"]) F3 fun _ _ _ _ _ _ us hl => match us, hl with | [_], _ => rfl
  have F4 := fund0 (st := s_is_run) l4 c4 k4
  have b4 := bindN (ps := ["thing"]) F4 fun _ _ _ _ _ _ us hl => match us, hl with | [_], _ => rfl
  have F5 := fund0 (st := s_are_runs) l5 c5 k5
  have b5 := bindN (ps := ["thing", "size"]) F5 fun _ _ _ _ _ _ us hl => match us, hl with | [_, _], _ => rfl
  have F6 := fund0 (st := s_joined) l6 c6 k6
  have b6 := bindN (ps := ["pairs"]) F6 fun _ _ _ _ _ _ us hl => match us, hl with | [_], _ => rfl
  have F7 := fund0 (st := s_cut_out) l7 c7 k7
  have b7 := bindN (ps := ["pairs", "begin", "end"]) F7 fun _ _ _ _ _ _ us hl => match us, hl with | [_, _, _], _ => rfl
  have F8 := fund0 (st := s_want_size) l8 c8 k8
  have b8 := bindN (ps := ["thing"]) F8 fun _ _ _ _ _ _ us hl => match us, hl with | [_], _ => rfl
  have F9 := fund0 (st := s_want_number) l9 c9 k9
  have b9 := bindN (ps := ["thing"]) F9 fun _ _ _ _ _ _ us hl => match us, hl with | [_], _ => rfl
  have F10 := fund0 (st := s_want_cell) l10 c10 k10
  have b10 := bindN (ps := ["thing", "size"]) F10 fun _ _ _ _ _ _ us hl => match us, hl with | [_, _], _ => rfl
  have F11 := fund0 (st := s_want_stretch) l11 c11 k11
  have b11 := bindN (ps := ["begin", "end", "size"]) F11 fun _ _ _ _ _ _ us hl => match us, hl with | [_, _, _], _ => rfl
  have F12 := fund1 (st := s_Memory_init) (kws := ([("number", V.int 0)] : List (Str × V))) l12 c12 k12 (kw_more q12_0 ⟨_, rfl⟩ (fun q hq => nomatch hq))
  have b12 := bindK (ps := ["self", "size", "number"]) F12 2 (by simp) rfl fun _ _ _ _ _ _ us ks h1 h2 => match us, ks, h1, h2 with | [_, _], [_], _, _ => ⟨_, _, _, _, _, _, rfl, rfl, rfl⟩
  have F13 := fund0 (st := s_Memory_size) l13 c13 k13
  have b13 := bindN (ps := ["self"]) F13 fun _ _ _ _ _ _ us hl => match us, hl with | [_], _ => rfl
  have F14 := fund0 (st := s_Memory_at) l14 c14 k14
  have b14 := bindN (ps := ["self", "cell"]) F14 fun _ _ _ _ _ _ us hl => match us, hl with | [_, _], _ => rfl
  have F15 := fund0 (st := s_Memory_runs) l15 c15 k15
  have b15 := bindN (ps := ["self"]) F15 fun _ _ _ _ _ _ us hl => match us, hl with | [_], _ => rfl
  have F16 := fund0 (st := s_Memory_lay) l16 c16 k16
  have b16 := bindN (ps := ["self", "begin", "pairs", "end"]) F16 fun _ _ _ _ _ _ us hl => match us, hl with | [_, _, _, _], _ => rfl
  have F17 := fund0 (st := s_Memory_put) l17 c17 k17
  have b17 := bindN (ps := ["self", "cell", "number"]) F17 fun _ _ _ _ _ _ us hl => match us, hl with | [_, _, _], _ => rfl
  have F18 := fund0 (st := s_Memory_fill) l18 c18 k18
  have b18 := bindN (ps := ["self", "begin", "end", "number"]) F18 fun _ _ _ _ _ _ us hl => match us, hl with | [_, _, _, _], _ => rfl
  have F19 := fund1 (st := s_Memory_bring) (kws := ([("source", V.non)] : List (Str × V))) l19 c19 k19 (kw_more q19_0 rfl (fun q hq => nomatch hq))
  have b19 := bindK (ps := ["self", "begin", "end", "to", "source"]) F19 4 (by simp) rfl fun _ _ _ _ _ _ us ks h1 h2 => match us, ks, h1, h2 with | [_, _, _, _], [_], _, _ => ⟨_, _, _, _, _, _, rfl, rfl, rfl⟩
  have F20 := fund0 (st := s_Memory_copied) l20 c20 k20
  have b20 := bindN (ps := ["self"]) F20 fun _ _ _ _ _ _ us hl => match us, hl with | [_], _ => rfl
  have F21 := fund0 (st := s_Memory_eq) l21 c21 k21
  have b21 := bindN (ps := ["self", "other"]) F21 fun _ _ _ _ _ _ us hl => match us, hl with | [_, _], _ => rfl
  have F22 := fund0 (st := s_Memory_len) l22 c22 k22
  have b22 := bindN (ps := ["self"]) F22 fun _ _ _ _ _ _ us hl => match us, hl with | [_], _ => rfl
  have F23 := fund0 (st := s_Memory_repr) l23 c23 k23
  have b23 := bindN (ps := ["self"]) F23 fun _ _ _ _ _ _ us hl => match us, hl with | [_], _ => rfl
  have F24 := fund0 (st := s_memory_of) l24 c24 k24
  have b24 := bindN (ps := ["runs"]) F24 fun _ _ _ _ _ _ us hl => match us, hl with | [_], _ => rfl
  have F25 := fund0 (st := s_is_count) l25 c25 k25
  have b25 := bindN (ps := ["thing"]) F25 fun _ _ _ _ _ _ us hl => match us, hl with | [_], _ => rfl
  have F26 := fund0 (st := s_Ties_init) l26 c26 k26
  have b26 := bindN (ps := ["self"]) F26 fun _ _ _ _ _ _ us hl => match us, hl with | [_], _ => rfl
  have F27 := fund0 (st := s_Ties_ever) l27 c27 k27
  have b27 := bindN (ps := ["self"]) F27 fun _ _ _ _ _ _ us hl => match us, hl with | [_], _ => rfl
  have F28 := fund0 (st := s_Ties_living) l28 c28 k28
  have b28 := bindN (ps := ["self"]) F28 fun _ _ _ _ _ _ us hl => match us, hl with | [_], _ => rfl
  have F29 := fund0 (st := s_Ties_free) l29 c29 k29
  have b29 := bindN (ps := ["self"]) F29 fun _ _ _ _ _ _ us hl => match us, hl with | [_], _ => rfl
  have F30 := fund0 (st := s_Ties_rows) l30 c30 k30
  have b30 := bindN (ps := ["self"]) F30 fun _ _ _ _ _ _ us hl => match us, hl with | [_], _ => rfl
  have F31 := fund0 (st := s_Ties_lives) l31 c31 k31
  have b31 := bindN (ps := ["self", "thing"]) F31 fun _ _ _ _ _ _ us hl => match us, hl with | [_, _], _ => rfl
  have F32 := fund0 (st := s_Ties_has) l32 c32 k32
  have b32 := bindN (ps := ["self", "thing"]) F32 fun _ _ _ _ _ _ us hl => match us, hl with | [_, _], _ => rfl
  have F33 := fund0 (st := s_Ties_tied) l33 c33 k33
  have b33 := bindN (ps := ["self", "world"]) F33 fun _ _ _ _ _ _ us hl => match us, hl with | [_, _], _ => rfl
  have F34 := fund0 (st := s_Ties_way) l34 c34 k34
  have b34 := bindN (ps := ["self", "one", "other"]) F34 fun _ _ _ _ _ _ us hl => match us, hl with | [_, _, _], _ => rfl
  have F35 := fund0 (st := s_Ties_spread) l35 c35 k35
  have b35 := bindN (ps := ["self", "goal"]) F35 fun _ _ _ _ _ _ us hl => match us, hl with | [_, _], _ => rfl
  have F36 := fund0 (st := s_Ties_fork) l36 c36 k36
  have b36 := bindN (ps := ["self", "world"]) F36 fun _ _ _ _ _ _ us hl => match us, hl with | [_, _], _ => rfl
  have F37 := fund0 (st := s_Ties_end) l37 c37 k37
  have b37 := bindN (ps := ["self", "world"]) F37 fun _ _ _ _ _ _ us hl => match us, hl with | [_, _], _ => rfl
  have F38 := fund0 (st := s_Ties_may_go) l38 c38 k38
  have b38 := bindN (ps := ["self", "world"]) F38 fun _ _ _ _ _ _ us hl => match us, hl with | [_, _], _ => rfl
  have F39 := fund0 (st := s_Ties_taken_out) l39 c39 k39
  have b39 := bindN (ps := ["self", "world"]) F39 fun _ _ _ _ _ _ us hl => match us, hl with | [_, _], _ => rfl
  have F40 := fund0 (st := s_Ties_copied) l40 c40 k40
  have b40 := bindN (ps := ["self"]) F40 fun _ _ _ _ _ _ us hl => match us, hl with | [_], _ => rfl
  have F41 := fund0 (st := s_Ties_eq) l41 c41 k41
  have b41 := bindN (ps := ["self", "other"]) F41 fun _ _ _ _ _ _ us hl => match us, hl with | [_, _], _ => rfl
  have F42 := fund0 (st := s_Ties_told) l42 c42 k42
  have b42 := bindN (ps := ["self"]) F42 fun _ _ _ _ _ _ us hl => match us, hl with | [_], _ => rfl
  have F43 := fund0 (st := s_Ties_len) l43 c43 k43
  have b43 := bindN (ps := ["self"]) F43 fun _ _ _ _ _ _ us hl => match us, hl with | [_], _ => rfl
  have F44 := fund0 (st := s_made) l44 c44 k44
  have b44 := bindN (ps := ["ever", "living", "worlds", "rows"]) F44 fun _ _ _ _ _ _ us hl => match us, hl with | [_, _, _, _], _ => rfl
  have F45 := fund0 (st := s_Store_init) l45 c45 k45
  have b45 := bindN (ps := ["self", "size"]) F45 fun _ _ _ _ _ _ us hl => match us, hl with | [_, _], _ => rfl
  have F46 := fund0 (st := s_Store_size) l46 c46 k46
  have b46 := bindN (ps := ["self"]) F46 fun _ _ _ _ _ _ us hl => match us, hl with | [_], _ => rfl
  have F47 := fund0 (st := s_Store_ties) l47 c47 k47
  have b47 := bindN (ps := ["self"]) F47 fun _ _ _ _ _ _ us hl => match us, hl with | [_], _ => rfl
  have F48 := fund0 (st := s_Store_living) l48 c48 k48
  have b48 := bindN (ps := ["self"]) F48 fun _ _ _ _ _ _ us hl => match us, hl with | [_], _ => rfl
  have F49 := fund0 (st := s_Store_own) l49 c49 k49
  have b49 := bindN (ps := ["self", "world"]) F49 fun _ _ _ _ _ _ us hl => match us, hl with | [_, _], _ => rfl
  have F50 := fund0 (st := s_Store_memory) l50 c50 k50
  have b50 := bindN (ps := ["self", "world"]) F50 fun _ _ _ _ _ _ us hl => match us, hl with | [_, _], _ => rfl
  have F51 := fund0 (st := s_Store_at) l51 c51 k51
  have b51 := bindN (ps := ["self", "world", "cell"]) F51 fun _ _ _ _ _ _ us hl => match us, hl with | [_, _, _], _ => rfl
  have F52 := fund0 (st := s_Store_fork) l52 c52 k52
  have b52 := bindN (ps := ["self", "world"]) F52 fun _ _ _ _ _ _ us hl => match us, hl with | [_, _], _ => rfl
  have F53 := fund0 (st := s_Store_end) l53 c53 k53
  have b53 := bindN (ps := ["self", "world"]) F53 fun _ _ _ _ _ _ us hl => match us, hl with | [_, _], _ => rfl
  have F54 := fund0 (st := s_Store_put) l54 c54 k54
  have b54 := bindN (ps := ["self", "world", "cell", "number"]) F54 fun _ _ _ _ _ _ us hl => match us, hl with | [_, _, _, _], _ => rfl
  have F55 := fund0 (st := s_Store_fill) l55 c55 k55
  have b55 := bindN (ps := ["self", "world", "begin", "end", "number"]) F55 fun _ _ _ _ _ _ us hl => match us, hl with | [_, _, _, _, _], _ => rfl
  have F56 := fund1 (st := s_Store_bring) (kws := ([("source", V.non)] : List (Str × V))) l56 c56 k56 (kw_more q56_0 rfl (fun q hq => nomatch hq))
  have b56 := bindK (ps := ["self", "world", "begin", "end", "to", "source"]) F56 5 (by simp) rfl fun _ _ _ _ _ _ us ks h1 h2 => match us, ks, h1, h2 with | [_, _, _, _, _], [_], _, _ => ⟨_, _, _, _, _, _, rfl, rfl, rfl⟩
  have F57 := fund0 (st := s_Store_all_columns) l57 c57 k57
  have b57 := bindN (ps := ["self"]) F57 fun _ _ _ _ _ _ us hl => match us, hl with | [_], _ => rfl
  have F58 := fund0 (st := s_Store_cost) l58 c58 k58
  have b58 := bindN (ps := ["self"]) F58 fun _ _ _ _ _ _ us hl => match us, hl with | [_], _ => rfl
  have F59 := fund0 (st := s_Store_keepings) l59 c59 k59
  have b59 := bindN (ps := ["self"]) F59 fun _ _ _ _ _ _ us hl => match us, hl with | [_], _ => rfl
  have F60 := fund0 (st := s_Store_kept) l60 c60 k60
  have b60 := bindN (ps := ["self", "world"]) F60 fun _ _ _ _ _ _ us hl => match us, hl with | [_, _], _ => rfl
  have F61 := fund0 (st := s_Store_sure) l61 c61 k61
  have b61 := bindN (ps := ["self", "world"]) F61 fun _ _ _ _ _ _ us hl => match us, hl with | [_, _], _ => rfl
  have F62 := fund0 (st := s_Store_held) l62 c62 k62
  have b62 := bindN (ps := ["self"]) F62 fun _ _ _ _ _ _ us hl => match us, hl with | [_], _ => rfl
  have F63 := fund0 (st := s_Store_copied) l63 c63 k63
  have b63 := bindN (ps := ["self"]) F63 fun _ _ _ _ _ _ us hl => match us, hl with | [_], _ => rfl
  have F64 := fund0 (st := s_Store_eq) l64 c64 k64
  have b64 := bindN (ps := ["self", "other"]) F64 fun _ _ _ _ _ _ us hl => match us, hl with | [_, _], _ => rfl
  have F65 := fund0 (st := s_Store_len) l65 c65 k65
  have b65 := bindN (ps := ["self"]) F65 fun _ _ _ _ _ _ us hl => match us, hl with | [_], _ => rfl
  have F66 := fund0 (st := s_store_of) l66 c66 k66
  have b66 := bindN (ps := ["size", "ties", "memories"]) F66 fun _ _ _ _ _ _ us hl => match us, hl with | [_, _, _], _ => rfl
  have F67 := fund0 (st := s_law_pot) l67 c67 k67
  have b67 := bindN (ps := ["_law_script", "_law_k"]) F67 fun _ _ _ _ _ _ us hl => match us, hl with | [_, _], _ => rfl
  have F68 := fund0 (st := s_law_take) l68 c68 k68
  have b68 := bindN (ps := ["_law_pot_here", "_law_many"]) F68 fun _ _ _ _ _ _ us hl => match us, hl with | [_, _], _ => rfl
  have F69 := fund0 (st := s_law_among) l69 c69 k69
  have b69 := bindN (ps := ["_law_pot_here", "_law_some"]) F69 fun _ _ _ _ _ _ us hl => match us, hl with | [_, _], _ => rfl
  have F70 := fund0 (st := s_law_wide) l70 c70 k70
  have b70 := bindN (ps := ["_law_pot_here"]) F70 fun _ _ _ _ _ _ us hl => match us, hl with | [_], _ => rfl
  have F71 := fund0 (st := s_law_number) l71 c71 k71
  have b71 := bindN (ps := ["_law_pot_here"]) F71 fun _ _ _ _ _ _ us hl => match us, hl with | [_], _ => rfl
  have F72 := fund0 (st := s_law_part) l72 c72 k72
  have b72 := bindN (ps := ["_law_row", "_law_begin", "_law_stop"]) F72 fun _ _ _ _ _ _ us hl => match us, hl with | [_, _, _], _ => rfl
  have F73 := fund0 (st := s_law_joined) l73 c73 k73
  have b73 := bindN (ps := ["_law_row"]) F73 fun _ _ _ _ _ _ us hl => match us, hl with | [_], _ => rfl
  have F74 := fund0 (st := s_law_with) l74 c74 k74
  have b74 := bindN (ps := ["_law_row", "_law_begin", "_law_part_here"]) F74 fun _ _ _ _ _ _ us hl => match us, hl with | [_, _, _], _ => rfl
  have F75 := fund0 (st := s_law_model) l75 c75 k75
  have b75 := bindN (ps := ["_law_wide_here"]) F75 fun _ _ _ _ _ _ us hl => match us, hl with | [_], _ => rfl
  have F76 := fund0 (st := s_law_forked) l76 c76 k76
  have b76 := bindN (ps := ["_law_model_here", "_law_being"]) F76 fun _ _ _ _ _ _ us hl => match us, hl with | [_, _], _ => rfl
  have F77 := fund0 (st := s_law_dropped) l77 c77 k77
  have b77 := bindN (ps := ["_law_model_here", "_law_one"]) F77 fun _ _ _ _ _ _ us hl => match us, hl with | [_, _], _ => rfl
  have F78 := fund0 (st := s_law_ended) l78 c78 k78
  have b78 := bindN (ps := ["_law_model_here", "_law_being"]) F78 fun _ _ _ _ _ _ us hl => match us, hl with | [_, _], _ => rfl
  have F79 := fund0 (st := s_law_pairs) l79 c79 k79
  have b79 := bindN (ps := ["_law_model_here"]) F79 fun _ _ _ _ _ _ us hl => match us, hl with | [_], _ => rfl
  have F80 := fund0 (st := s_law_loose) l80 c80 k80
  have b80 := bindN (ps := ["_law_model_here"]) F80 fun _ _ _ _ _ _ us hl => match us, hl with | [_], _ => rfl
  have F81 := fund0 (st := s_law_spot) l81 c81 k81
  have b81 := bindN (ps := ["_law_pot_here", "_law_model_here"]) F81 fun _ _ _ _ _ _ us hl => match us, hl with | [_, _], _ => rfl
  have F82 := fund0 (st := s_law_written) l82 c82 k82
  have b82 := bindN (ps := ["_law_pot_here", "_law_store", "_law_model_here"]) F82 fun _ _ _ _ _ _ us hl => match us, hl with | [_, _, _], _ => rfl
  have F83 := fund0 (st := s_law_deed) l83 c83 k83
  have b83 := bindN (ps := ["_law_pot_here", "_law_store", "_law_model_here"]) F83 fun _ _ _ _ _ _ us hl => match us, hl with | [_, _, _], _ => rfl
  have F84 := fund0 (st := s_law_stands) l84 c84 k84
  have b84 := bindN (ps := ["_law_pot_here", "_law_store", "_law_model_here"]) F84 fun _ _ _ _ _ _ us hl => match us, hl with | [_, _, _], _ => rfl
  have F85 := fund0 (st := s_law_own) l85 c85 k85
  have b85 := bindN (ps := ["_law_pot_here", "_law_store", "_law_model_here"]) F85 fun _ _ _ _ _ _ us hl => match us, hl with | [_, _, _], _ => rfl
  have F86 := fund0 (st := s_law_nothing_told) l86 c86 k86
  have b86 := bindN (ps := ["_law_store", "_law_model_here"]) F86 fun _ _ _ _ _ _ us hl => match us, hl with | [_, _], _ => rfl
  have F87 := fund0 (st := s_law) l87 c87 k87
  have b87 := bindN (ps := ["_law_script"]) F87 fun _ _ _ _ _ _ us hl => match us, hl with | [_], _ => rfl
  let T : Txt K mg := {
    c_Memory := C0, cl_Memory := ⟨pg0, hd0, po0, sa0⟩, mg_Memory := PySem.W.mg_of X N ac0
    na_Memory_pairs := na0_pairs
    na_Memory_wide := na0_wide
    ic_Memory := ⟨⟨pg0, hd0, po0, sa0⟩, oa0, on, ot, om0, kit_me⟩
    ot_Memory := by
      intro n hn
      simp only [tyNames, List.mem_cons, List.not_mem_nil, or_false] at hn
      rcases hn with rfl | rfl | rfl | rfl | rfl | rfl | rfl
      · exact kit_other oc0_ oy0 (by kernel_rfl)
      · exact kit_other oc0_ oy0 (by kernel_rfl)
      · exact kit_other oc0_ oy0 (by kernel_rfl)
      · exact kit_other oc0_ oy0 (by kernel_rfl)
      · exact kit_other oc0_ oy0 (by kernel_rfl)
      · exact kit_other oc0_ oy0 (by kernel_rfl)
      · exact kit_other oc0_ oy0 (by kernel_rfl)
    ne_Memory := nn0
    c_Ties := C1, cl_Ties := ⟨pg1, hd1, po1, sa1⟩, mg_Ties := PySem.W.mg_of X N ac1
    na_Ties_near := na1_near
    na_Ties_own_ever := na1_own_ever
    na_Ties_own_living := na1_own_living
    ic_Ties := ⟨⟨pg1, hd1, po1, sa1⟩, oa1, on, ot, om1, kit_me⟩
    ot_Ties := by
      intro n hn
      simp only [tyNames, List.mem_cons, List.not_mem_nil, or_false] at hn
      rcases hn with rfl | rfl | rfl | rfl | rfl | rfl | rfl
      · exact kit_other oc1_ oy1 (by kernel_rfl)
      · exact kit_other oc1_ oy1 (by kernel_rfl)
      · exact kit_other oc1_ oy1 (by kernel_rfl)
      · exact kit_other oc1_ oy1 (by kernel_rfl)
      · exact kit_other oc1_ oy1 (by kernel_rfl)
      · exact kit_other oc1_ oy1 (by kernel_rfl)
      · exact kit_other oc1_ oy1 (by kernel_rfl)
    ne_Ties := nn1
    c_Store := C2, cl_Store := ⟨pg2, hd2, po2, sa2⟩, mg_Store := PySem.W.mg_of X N ac2
    na_Store_kept_by_world := na2_kept_by_world
    na_Store_own_size := na2_own_size
    na_Store_own_ties := na2_own_ties
    ic_Store := ⟨⟨pg2, hd2, po2, sa2⟩, oa2, on, ot, om2, kit_me⟩
    ot_Store := by
      intro n hn
      simp only [tyNames, List.mem_cons, List.not_mem_nil, or_false] at hn
      rcases hn with rfl | rfl | rfl | rfl | rfl | rfl | rfl
      · exact kit_other oc2_ oy2 (by kernel_rfl)
      · exact kit_other oc2_ oy2 (by kernel_rfl)
      · exact kit_other oc2_ oy2 (by kernel_rfl)
      · exact kit_other oc2_ oy2 (by kernel_rfl)
      · exact kit_other oc2_ oy2 (by kernel_rfl)
      · exact kit_other oc2_ oy2 (by kernel_rfl)
      · exact kit_other oc2_ oy2 (by kernel_rfl)
    ne_Store := nn2
    a_wall := _, d_wall := _, F_wall := F0, b_wall := b0, m_wall := PySem.W.mg_of X N a0
    a_is_number := _, d_is_number := _, F_is_number := F1, b_is_number := b1, m_is_number := PySem.W.mg_of X N a1
    a_is_whole := _, d_is_whole := _, F_is_whole := F2, b_is_whole := b2, m_is_whole := PySem.W.mg_of X N a2
    a_is_size := _, d_is_size := _, F_is_size := F3, b_is_size := b3, m_is_size := PySem.W.mg_of X N a3
    a_is_run := _, d_is_run := _, F_is_run := F4, b_is_run := b4, m_is_run := PySem.W.mg_of X N a4
    a_are_runs := _, d_are_runs := _, F_are_runs := F5, b_are_runs := b5, m_are_runs := PySem.W.mg_of X N a5
    a_joined := _, d_joined := _, F_joined := F6, b_joined := b6, m_joined := PySem.W.mg_of X N a6
    a_cut_out := _, d_cut_out := _, F_cut_out := F7, b_cut_out := b7, m_cut_out := PySem.W.mg_of X N a7
    a_want_size := _, d_want_size := _, F_want_size := F8, b_want_size := b8, m_want_size := PySem.W.mg_of X N a8
    a_want_number := _, d_want_number := _, F_want_number := F9, b_want_number := b9, m_want_number := PySem.W.mg_of X N a9
    a_want_cell := _, d_want_cell := _, F_want_cell := F10, b_want_cell := b10, m_want_cell := PySem.W.mg_of X N a10
    a_want_stretch := _, d_want_stretch := _, F_want_stretch := F11, b_want_stretch := b11, m_want_stretch := PySem.W.mg_of X N a11
    a_Memory_init := _, d_Memory_init := _, F_Memory_init := F12, b_Memory_init := b12, mk_Memory := ⟨mk0, a12, i12, kc0⟩
    a_Memory_size := _, d_Memory_size := _, F_Memory_size := F13, b_Memory_size := b13, me_Memory_size := ⟨a13, i13, k13⟩
    a_Memory_at := _, d_Memory_at := _, F_Memory_at := F14, b_Memory_at := b14, me_Memory_at := ⟨a14, i14, k14⟩
    a_Memory_runs := _, d_Memory_runs := _, F_Memory_runs := F15, b_Memory_runs := b15, me_Memory_runs := ⟨a15, i15, k15⟩
    a_Memory_lay := _, d_Memory_lay := _, F_Memory_lay := F16, b_Memory_lay := b16, me_Memory_lay := ⟨a16, i16, k16⟩
    a_Memory_put := _, d_Memory_put := _, F_Memory_put := F17, b_Memory_put := b17, me_Memory_put := ⟨a17, i17, k17⟩
    a_Memory_fill := _, d_Memory_fill := _, F_Memory_fill := F18, b_Memory_fill := b18, me_Memory_fill := ⟨a18, i18, k18⟩
    a_Memory_bring := _, d_Memory_bring := _, F_Memory_bring := F19, b_Memory_bring := b19, me_Memory_bring := ⟨a19, i19, k19⟩
    a_Memory_copied := _, d_Memory_copied := _, F_Memory_copied := F20, b_Memory_copied := b20, me_Memory_copied := ⟨a20, i20, k20⟩
    a_Memory_eq := _, d_Memory_eq := _, F_Memory_eq := F21, b_Memory_eq := b21, me_Memory_eq := ⟨a21, i21, k21⟩
    a_Memory_len := _, d_Memory_len := _, F_Memory_len := F22, b_Memory_len := b22, me_Memory_len := ⟨a22, i22, k22⟩
    a_Memory_repr := _, d_Memory_repr := _, F_Memory_repr := F23, b_Memory_repr := b23, me_Memory_repr := ⟨a23, i23, k23⟩
    a_memory_of := _, d_memory_of := _, F_memory_of := F24, b_memory_of := b24, m_memory_of := PySem.W.mg_of X N a24
    a_is_count := _, d_is_count := _, F_is_count := F25, b_is_count := b25, m_is_count := PySem.W.mg_of X N a25
    a_Ties_init := _, d_Ties_init := _, F_Ties_init := F26, b_Ties_init := b26, mk_Ties := ⟨mk1, a26, i26, kc1⟩
    a_Ties_ever := _, d_Ties_ever := _, F_Ties_ever := F27, b_Ties_ever := b27, me_Ties_ever := ⟨a27, i27, k27⟩
    a_Ties_living := _, d_Ties_living := _, F_Ties_living := F28, b_Ties_living := b28, me_Ties_living := ⟨a28, i28, k28⟩
    a_Ties_free := _, d_Ties_free := _, F_Ties_free := F29, b_Ties_free := b29, me_Ties_free := ⟨a29, i29, k29⟩
    a_Ties_rows := _, d_Ties_rows := _, F_Ties_rows := F30, b_Ties_rows := b30, me_Ties_rows := ⟨a30, i30, k30⟩
    a_Ties_lives := _, d_Ties_lives := _, F_Ties_lives := F31, b_Ties_lives := b31, me_Ties_lives := ⟨a31, i31, k31⟩
    a_Ties_has := _, d_Ties_has := _, F_Ties_has := F32, b_Ties_has := b32, me_Ties_has := ⟨a32, i32, k32⟩
    a_Ties_tied := _, d_Ties_tied := _, F_Ties_tied := F33, b_Ties_tied := b33, me_Ties_tied := ⟨a33, i33, k33⟩
    a_Ties_way := _, d_Ties_way := _, F_Ties_way := F34, b_Ties_way := b34, me_Ties_way := ⟨a34, i34, k34⟩
    a_Ties_spread := _, d_Ties_spread := _, F_Ties_spread := F35, b_Ties_spread := b35, me_Ties_spread := ⟨a35, i35, k35⟩
    a_Ties_fork := _, d_Ties_fork := _, F_Ties_fork := F36, b_Ties_fork := b36, me_Ties_fork := ⟨a36, i36, k36⟩
    a_Ties_end := _, d_Ties_end := _, F_Ties_end := F37, b_Ties_end := b37, me_Ties_end := ⟨a37, i37, k37⟩
    a_Ties_may_go := _, d_Ties_may_go := _, F_Ties_may_go := F38, b_Ties_may_go := b38, me_Ties_may_go := ⟨a38, i38, k38⟩
    a_Ties_taken_out := _, d_Ties_taken_out := _, F_Ties_taken_out := F39, b_Ties_taken_out := b39, me_Ties_taken_out := ⟨a39, i39, k39⟩
    a_Ties_copied := _, d_Ties_copied := _, F_Ties_copied := F40, b_Ties_copied := b40, me_Ties_copied := ⟨a40, i40, k40⟩
    a_Ties_eq := _, d_Ties_eq := _, F_Ties_eq := F41, b_Ties_eq := b41, me_Ties_eq := ⟨a41, i41, k41⟩
    a_Ties_told := _, d_Ties_told := _, F_Ties_told := F42, b_Ties_told := b42, me_Ties_told := ⟨a42, i42, k42⟩
    a_Ties_len := _, d_Ties_len := _, F_Ties_len := F43, b_Ties_len := b43, me_Ties_len := ⟨a43, i43, k43⟩
    a_made := _, d_made := _, F_made := F44, b_made := b44, m_made := PySem.W.mg_of X N a44
    a_Store_init := _, d_Store_init := _, F_Store_init := F45, b_Store_init := b45, mk_Store := ⟨mk2, a45, i45, kc2⟩
    a_Store_size := _, d_Store_size := _, F_Store_size := F46, b_Store_size := b46, me_Store_size := ⟨a46, i46, k46⟩
    a_Store_ties := _, d_Store_ties := _, F_Store_ties := F47, b_Store_ties := b47, me_Store_ties := ⟨a47, i47, k47⟩
    a_Store_living := _, d_Store_living := _, F_Store_living := F48, b_Store_living := b48, me_Store_living := ⟨a48, i48, k48⟩
    a_Store_own := _, d_Store_own := _, F_Store_own := F49, b_Store_own := b49, me_Store_own := ⟨a49, i49, k49⟩
    a_Store_memory := _, d_Store_memory := _, F_Store_memory := F50, b_Store_memory := b50, me_Store_memory := ⟨a50, i50, k50⟩
    a_Store_at := _, d_Store_at := _, F_Store_at := F51, b_Store_at := b51, me_Store_at := ⟨a51, i51, k51⟩
    a_Store_fork := _, d_Store_fork := _, F_Store_fork := F52, b_Store_fork := b52, me_Store_fork := ⟨a52, i52, k52⟩
    a_Store_end := _, d_Store_end := _, F_Store_end := F53, b_Store_end := b53, me_Store_end := ⟨a53, i53, k53⟩
    a_Store_put := _, d_Store_put := _, F_Store_put := F54, b_Store_put := b54, me_Store_put := ⟨a54, i54, k54⟩
    a_Store_fill := _, d_Store_fill := _, F_Store_fill := F55, b_Store_fill := b55, me_Store_fill := ⟨a55, i55, k55⟩
    a_Store_bring := _, d_Store_bring := _, F_Store_bring := F56, b_Store_bring := b56, me_Store_bring := ⟨a56, i56, k56⟩
    a_Store_all_columns := _, d_Store_all_columns := _, F_Store_all_columns := F57, b_Store_all_columns := b57, me_Store_all_columns := ⟨a57, i57, k57⟩
    a_Store_cost := _, d_Store_cost := _, F_Store_cost := F58, b_Store_cost := b58, me_Store_cost := ⟨a58, i58, k58⟩
    a_Store_keepings := _, d_Store_keepings := _, F_Store_keepings := F59, b_Store_keepings := b59, me_Store_keepings := ⟨a59, i59, k59⟩
    a_Store_kept := _, d_Store_kept := _, F_Store_kept := F60, b_Store_kept := b60, me_Store_kept := ⟨a60, i60, k60⟩
    a_Store_sure := _, d_Store_sure := _, F_Store_sure := F61, b_Store_sure := b61, me_Store_sure := ⟨a61, i61, k61⟩
    a_Store_held := _, d_Store_held := _, F_Store_held := F62, b_Store_held := b62, me_Store_held := ⟨a62, i62, k62⟩
    a_Store_copied := _, d_Store_copied := _, F_Store_copied := F63, b_Store_copied := b63, me_Store_copied := ⟨a63, i63, k63⟩
    a_Store_eq := _, d_Store_eq := _, F_Store_eq := F64, b_Store_eq := b64, me_Store_eq := ⟨a64, i64, k64⟩
    a_Store_len := _, d_Store_len := _, F_Store_len := F65, b_Store_len := b65, me_Store_len := ⟨a65, i65, k65⟩
    a_store_of := _, d_store_of := _, F_store_of := F66, b_store_of := b66, m_store_of := PySem.W.mg_of X N a66
    a_law_pot := _, d_law_pot := _, F_law_pot := F67, b_law_pot := b67, m_law_pot := PySem.W.mg_of X N a67
    a_law_take := _, d_law_take := _, F_law_take := F68, b_law_take := b68, m_law_take := PySem.W.mg_of X N a68
    a_law_among := _, d_law_among := _, F_law_among := F69, b_law_among := b69, m_law_among := PySem.W.mg_of X N a69
    a_law_wide := _, d_law_wide := _, F_law_wide := F70, b_law_wide := b70, m_law_wide := PySem.W.mg_of X N a70
    a_law_number := _, d_law_number := _, F_law_number := F71, b_law_number := b71, m_law_number := PySem.W.mg_of X N a71
    a_law_part := _, d_law_part := _, F_law_part := F72, b_law_part := b72, m_law_part := PySem.W.mg_of X N a72
    a_law_joined := _, d_law_joined := _, F_law_joined := F73, b_law_joined := b73, m_law_joined := PySem.W.mg_of X N a73
    a_law_with := _, d_law_with := _, F_law_with := F74, b_law_with := b74, m_law_with := PySem.W.mg_of X N a74
    a_law_model := _, d_law_model := _, F_law_model := F75, b_law_model := b75, m_law_model := PySem.W.mg_of X N a75
    a_law_forked := _, d_law_forked := _, F_law_forked := F76, b_law_forked := b76, m_law_forked := PySem.W.mg_of X N a76
    a_law_dropped := _, d_law_dropped := _, F_law_dropped := F77, b_law_dropped := b77, m_law_dropped := PySem.W.mg_of X N a77
    a_law_ended := _, d_law_ended := _, F_law_ended := F78, b_law_ended := b78, m_law_ended := PySem.W.mg_of X N a78
    a_law_pairs := _, d_law_pairs := _, F_law_pairs := F79, b_law_pairs := b79, m_law_pairs := PySem.W.mg_of X N a79
    a_law_loose := _, d_law_loose := _, F_law_loose := F80, b_law_loose := b80, m_law_loose := PySem.W.mg_of X N a80
    a_law_spot := _, d_law_spot := _, F_law_spot := F81, b_law_spot := b81, m_law_spot := PySem.W.mg_of X N a81
    a_law_written := _, d_law_written := _, F_law_written := F82, b_law_written := b82, m_law_written := PySem.W.mg_of X N a82
    a_law_deed := _, d_law_deed := _, F_law_deed := F83, b_law_deed := b83, m_law_deed := PySem.W.mg_of X N a83
    a_law_stands := _, d_law_stands := _, F_law_stands := F84, b_law_stands := b84, m_law_stands := PySem.W.mg_of X N a84
    a_law_own := _, d_law_own := _, F_law_own := F85, b_law_own := b85, m_law_own := PySem.W.mg_of X N a85
    a_law_nothing_told := _, d_law_nothing_told := _, F_law_nothing_told := F86, b_law_nothing_told := b86, m_law_nothing_told := PySem.W.mg_of X N a86
    a_law := _, d_law := _, F_law := F87, b_law := b87, m_law := PySem.W.mg_of X N a87
    kb_Memory_bring_4_source := kbK (ps := ["self", "begin", "end", "to", "source"]) F19 4 ["source"] ([] : List (Str × V)) [0] (by simp) (by simp) fun _ _ _ _ _ _ us mv ws h1 h2 h3 => match us, mv, ws, h1, h2, h3 with | [_, _, _, _], [], [_], _, _, _ => rfl
    kb_Store_bring_5_source := kbK (ps := ["self", "world", "begin", "end", "to", "source"]) F56 5 ["source"] ([] : List (Str × V)) [0] (by simp) (by simp) fun _ _ _ _ _ _ us mv ws h1 h2 h3 => match us, mv, ws, h1, h2, h3 with | [_, _, _, _, _], [], [_], _, _, _ => rfl
    t_FEWEST_TIES := _, g_FEWEST_TIES := PySem.W.mg_of X N g_FEWEST_TIES
    t_LARGEST := _, g_LARGEST := PySem.W.mg_of X N g_LARGEST
    n_LookupError := PySem.W.mg_none_of X N z_LookupError
    n_ValueError := PySem.W.mg_none_of X N z_ValueError
    n_abs := PySem.W.mg_none_of X N z_abs
    n_all := PySem.W.mg_none_of X N z_all
    n_any := PySem.W.mg_none_of X N z_any
    n_bool := PySem.W.mg_none_of X N z_bool
    n_divmod := PySem.W.mg_none_of X N z_divmod
    n_int := PySem.W.mg_none_of X N z_int
    n_isinstance := PySem.W.mg_none_of X N z_isinstance
    n_len := PySem.W.mg_none_of X N z_len
    n_list := PySem.W.mg_none_of X N z_list
    n_max := PySem.W.mg_none_of X N z_max
    n_min := PySem.W.mg_none_of X N z_min
    n_range := PySem.W.mg_none_of X N z_range
    n_repr := PySem.W.mg_none_of X N z_repr
    n_sorted := PySem.W.mg_none_of X N z_sorted
    n_sum := PySem.W.mg_none_of X N z_sum
    n_tuple := PySem.W.mg_none_of X N z_tuple
    n_zip := PySem.W.mg_none_of X N z_zip
  }
  refine ⟨_, fun s v => .of_eq rfl, fun base _ _ => ok_law T⟩
end My
open PySem PySem.W PyProof.Rows in
set_option maxRecDepth 100000 in
set_option maxHeartbeats 0 in
theorem PySem.Challenge.cw_forkthrift_k42_whole_stores_by_deeds_holds : PySem.Challenge.rw_forkthrift_k42_whole_stores_by_deeds.Holds := by
  w_on; o_law; k_head; (case hw => w_witness2)
  k_fill
  refine G.walkG (l := PySem.Challenge.rw_forkthrift_k42_whole_stores_by_deeds) (sp := My.sp_law) (x := "_law_script") (n := 63) (k := 12) rfl (by decide) rfl ⟨rfl, by decide, by decide⟩ (fun w h Y => PySem.W.kIn_of Y) ?F ?S
  case S => exact fun K H a ns hl hb ho hs => My.law_end hl hb ho hs
  case F =>
    intro w mg fa h KX N hmg
    refine' My.all_mk KX N hmg ?ac0 ?ac1 ?ac2 ?a0 ?l0 ?c0 ?k0 ?a1 ?l1 ?c1 ?k1 ?a2 ?l2 ?c2 ?k2 ?a3 ?l3 ?c3 ?k3 ?a4 ?l4 ?c4 ?k4 ?a5 ?l5 ?c5 ?k5 ?a6 ?l6 ?c6 ?k6 ?a7 ?l7 ?c7 ?k7 ?a8 ?l8 ?c8 ?k8 ?a9 ?l9 ?c9 ?k9 ?a10 ?l10 ?c10 ?k10 ?a11 ?l11 ?c11 ?k11 ?a12 ?i12 ?l12 ?c12 ?k12 ?q12_0 ?a13 ?i13 ?l13 ?c13 ?k13 ?a14 ?i14 ?l14 ?c14 ?k14 ?a15 ?i15 ?l15 ?c15 ?k15 ?a16 ?i16 ?l16 ?c16 ?k16 ?a17 ?i17 ?l17 ?c17 ?k17 ?a18 ?i18 ?l18 ?c18 ?k18 ?a19 ?i19 ?l19 ?c19 ?k19 ?q19_0 ?a20 ?i20 ?l20 ?c20 ?k20 ?a21 ?i21 ?l21 ?c21 ?k21 ?a22 ?i22 ?l22 ?c22 ?k22 ?a23 ?i23 ?l23 ?c23 ?k23 ?a24 ?l24 ?c24 ?k24 ?a25 ?l25 ?c25 ?k25 ?a26 ?i26 ?l26 ?c26 ?k26 ?a27 ?i27 ?l27 ?c27 ?k27 ?a28 ?i28 ?l28 ?c28 ?k28 ?a29 ?i29 ?l29 ?c29 ?k29 ?a30 ?i30 ?l30 ?c30 ?k30 ?a31 ?i31 ?l31 ?c31 ?k31 ?a32 ?i32 ?l32 ?c32 ?k32 ?a33 ?i33 ?l33 ?c33 ?k33 ?a34 ?i34 ?l34 ?c34 ?k34 ?a35 ?i35 ?l35 ?c35 ?k35 ?a36 ?i36 ?l36 ?c36 ?k36 ?a37 ?i37 ?l37 ?c37 ?k37 ?a38 ?i38 ?l38 ?c38 ?k38 ?a39 ?i39 ?l39 ?c39 ?k39 ?a40 ?i40 ?l40 ?c40 ?k40 ?a41 ?i41 ?l41 ?c41 ?k41 ?a42 ?i42 ?l42 ?c42 ?k42 ?a43 ?i43 ?l43 ?c43 ?k43 ?a44 ?l44 ?c44 ?k44 ?a45 ?i45 ?l45 ?c45 ?k45 ?a46 ?i46 ?l46 ?c46 ?k46 ?a47 ?i47 ?l47 ?c47 ?k47 ?a48 ?i48 ?l48 ?c48 ?k48 ?a49 ?i49 ?l49 ?c49 ?k49 ?a50 ?i50 ?l50 ?c50 ?k50 ?a51 ?i51 ?l51 ?c51 ?k51 ?a52 ?i52 ?l52 ?c52 ?k52 ?a53 ?i53 ?l53 ?c53 ?k53 ?a54 ?i54 ?l54 ?c54 ?k54 ?a55 ?i55 ?l55 ?c55 ?k55 ?a56 ?i56 ?l56 ?c56 ?k56 ?q56_0 ?a57 ?i57 ?l57 ?c57 ?k57 ?a58 ?i58 ?l58 ?c58 ?k58 ?a59 ?i59 ?l59 ?c59 ?k59 ?a60 ?i60 ?l60 ?c60 ?k60 ?a61 ?i61 ?l61 ?c61 ?k61 ?a62 ?i62 ?l62 ?c62 ?k62 ?a63 ?i63 ?l63 ?c63 ?k63 ?a64 ?i64 ?l64 ?c64 ?k64 ?a65 ?i65 ?l65 ?c65 ?k65 ?a66 ?l66 ?c66 ?k66 ?a67 ?l67 ?c67 ?k67 ?a68 ?l68 ?c68 ?k68 ?a69 ?l69 ?c69 ?k69 ?a70 ?l70 ?c70 ?k70 ?a71 ?l71 ?c71 ?k71 ?a72 ?l72 ?c72 ?k72 ?a73 ?l73 ?c73 ?k73 ?a74 ?l74 ?c74 ?k74 ?a75 ?l75 ?c75 ?k75 ?a76 ?l76 ?c76 ?k76 ?a77 ?l77 ?c77 ?k77 ?a78 ?l78 ?c78 ?k78 ?a79 ?l79 ?c79 ?k79 ?a80 ?l80 ?c80 ?k80 ?a81 ?l81 ?c81 ?k81 ?a82 ?l82 ?c82 ?k82 ?a83 ?l83 ?c83 ?k83 ?a84 ?l84 ?c84 ?k84 ?a85 ?l85 ?c85 ?k85 ?a86 ?l86 ?c86 ?k86 ?a87 ?l87 ?c87 ?k87 ?pg0 ?hd0 ?po0 ?sa0 ?mk0 ?kc0 ?na0_pairs ?na0_wide ?pg1 ?hd1 ?po1 ?sa1 ?mk1 ?kc1 ?na1_near ?na1_own_ever ?na1_own_living ?pg2 ?hd2 ?po2 ?sa2 ?mk2 ?kc2 ?na2_kept_by_world ?na2_own_size ?na2_own_ties ?on ?ot ?oa0 ?om0 ?oc0_ ?oy0 ?nn0 ?oa1 ?om1 ?oc1_ ?oy1 ?nn1 ?oa2 ?om2 ?oc2_ ?oy2 ?nn2 ?g_FEWEST_TIES ?g_LARGEST ?z_LookupError ?z_ValueError ?z_abs ?z_all ?z_any ?z_bool ?z_divmod ?z_int ?z_isinstance ?z_len ?z_list ?z_max ?z_min ?z_range ?z_repr ?z_sorted ?z_sum ?z_tuple ?z_zip
    (case ac0 => k_is)
    (case ac1 => k_is)
    (case ac2 => k_is)
    (case a0 => k_is)
    (case l0 => k_is)
    (case c0 => k_is)
    (case k0 => k_is)
    (case a1 => k_is)
    (case l1 => k_is)
    (case c1 => k_is)
    (case k1 => k_is)
    (case a2 => k_is)
    (case l2 => k_is)
    (case c2 => k_is)
    (case k2 => k_is)
    (case a3 => k_is)
    (case l3 => k_is)
    (case c3 => k_is)
    (case k3 => k_is)
    (case a4 => k_is)
    (case l4 => k_is)
    (case c4 => k_is)
    (case k4 => k_is)
    (case a5 => k_is)
    (case l5 => k_is)
    (case c5 => k_is)
    (case k5 => k_is)
    (case a6 => k_is)
    (case l6 => k_is)
    (case c6 => k_is)
    (case k6 => k_is)
    (case a7 => k_is)
    (case l7 => k_is)
    (case c7 => k_is)
    (case k7 => k_is)
    (case a8 => k_is)
    (case l8 => k_is)
    (case c8 => k_is)
    (case k8 => k_is)
    (case a9 => k_is)
    (case l9 => k_is)
    (case c9 => k_is)
    (case k9 => k_is)
    (case a10 => k_is)
    (case l10 => k_is)
    (case c10 => k_is)
    (case k10 => k_is)
    (case a11 => k_is)
    (case l11 => k_is)
    (case c11 => k_is)
    (case k11 => k_is)
    (case a12 => k_is)
    (case i12 => k_is)
    (case l12 => k_is)
    (case c12 => k_is)
    (case k12 => k_is)
    (case q12_0 => k_is)
    (case a13 => k_is)
    (case i13 => k_is)
    (case l13 => k_is)
    (case c13 => k_is)
    (case k13 => k_is)
    (case a14 => k_is)
    (case i14 => k_is)
    (case l14 => k_is)
    (case c14 => k_is)
    (case k14 => k_is)
    (case a15 => k_is)
    (case i15 => k_is)
    (case l15 => k_is)
    (case c15 => k_is)
    (case k15 => k_is)
    (case a16 => k_is)
    (case i16 => k_is)
    (case l16 => k_is)
    (case c16 => k_is)
    (case k16 => k_is)
    (case a17 => k_is)
    (case i17 => k_is)
    (case l17 => k_is)
    (case c17 => k_is)
    (case k17 => k_is)
    (case a18 => k_is)
    (case i18 => k_is)
    (case l18 => k_is)
    (case c18 => k_is)
    (case k18 => k_is)
    (case a19 => k_is)
    (case i19 => k_is)
    (case l19 => k_is)
    (case c19 => k_is)
    (case k19 => k_is)
    (case q19_0 => k_is)
    (case a20 => k_is)
    (case i20 => k_is)
    (case l20 => k_is)
    (case c20 => k_is)
    (case k20 => k_is)
    (case a21 => k_is)
    (case i21 => k_is)
    (case l21 => k_is)
    (case c21 => k_is)
    (case k21 => k_is)
    (case a22 => k_is)
    (case i22 => k_is)
    (case l22 => k_is)
    (case c22 => k_is)
    (case k22 => k_is)
    (case a23 => k_is)
    (case i23 => k_is)
    (case l23 => k_is)
    (case c23 => k_is)
    (case k23 => k_is)
    (case a24 => k_is)
    (case l24 => k_is)
    (case c24 => k_is)
    (case k24 => k_is)
    (case a25 => k_is)
    (case l25 => k_is)
    (case c25 => k_is)
    (case k25 => k_is)
    (case a26 => k_is)
    (case i26 => k_is)
    (case l26 => k_is)
    (case c26 => k_is)
    (case k26 => k_is)
    (case a27 => k_is)
    (case i27 => k_is)
    (case l27 => k_is)
    (case c27 => k_is)
    (case k27 => k_is)
    (case a28 => k_is)
    (case i28 => k_is)
    (case l28 => k_is)
    (case c28 => k_is)
    (case k28 => k_is)
    (case a29 => k_is)
    (case i29 => k_is)
    (case l29 => k_is)
    (case c29 => k_is)
    (case k29 => k_is)
    (case a30 => k_is)
    (case i30 => k_is)
    (case l30 => k_is)
    (case c30 => k_is)
    (case k30 => k_is)
    (case a31 => k_is)
    (case i31 => k_is)
    (case l31 => k_is)
    (case c31 => k_is)
    (case k31 => k_is)
    (case a32 => k_is)
    (case i32 => k_is)
    (case l32 => k_is)
    (case c32 => k_is)
    (case k32 => k_is)
    (case a33 => k_is)
    (case i33 => k_is)
    (case l33 => k_is)
    (case c33 => k_is)
    (case k33 => k_is)
    (case a34 => k_is)
    (case i34 => k_is)
    (case l34 => k_is)
    (case c34 => k_is)
    (case k34 => k_is)
    (case a35 => k_is)
    (case i35 => k_is)
    (case l35 => k_is)
    (case c35 => k_is)
    (case k35 => k_is)
    (case a36 => k_is)
    (case i36 => k_is)
    (case l36 => k_is)
    (case c36 => k_is)
    (case k36 => k_is)
    (case a37 => k_is)
    (case i37 => k_is)
    (case l37 => k_is)
    (case c37 => k_is)
    (case k37 => k_is)
    (case a38 => k_is)
    (case i38 => k_is)
    (case l38 => k_is)
    (case c38 => k_is)
    (case k38 => k_is)
    (case a39 => k_is)
    (case i39 => k_is)
    (case l39 => k_is)
    (case c39 => k_is)
    (case k39 => k_is)
    (case a40 => k_is)
    (case i40 => k_is)
    (case l40 => k_is)
    (case c40 => k_is)
    (case k40 => k_is)
    (case a41 => k_is)
    (case i41 => k_is)
    (case l41 => k_is)
    (case c41 => k_is)
    (case k41 => k_is)
    (case a42 => k_is)
    (case i42 => k_is)
    (case l42 => k_is)
    (case c42 => k_is)
    (case k42 => k_is)
    (case a43 => k_is)
    (case i43 => k_is)
    (case l43 => k_is)
    (case c43 => k_is)
    (case k43 => k_is)
    (case a44 => k_is)
    (case l44 => k_is)
    (case c44 => k_is)
    (case k44 => k_is)
    (case a45 => k_is)
    (case i45 => k_is)
    (case l45 => k_is)
    (case c45 => k_is)
    (case k45 => k_is)
    (case a46 => k_is)
    (case i46 => k_is)
    (case l46 => k_is)
    (case c46 => k_is)
    (case k46 => k_is)
    (case a47 => k_is)
    (case i47 => k_is)
    (case l47 => k_is)
    (case c47 => k_is)
    (case k47 => k_is)
    (case a48 => k_is)
    (case i48 => k_is)
    (case l48 => k_is)
    (case c48 => k_is)
    (case k48 => k_is)
    (case a49 => k_is)
    (case i49 => k_is)
    (case l49 => k_is)
    (case c49 => k_is)
    (case k49 => k_is)
    (case a50 => k_is)
    (case i50 => k_is)
    (case l50 => k_is)
    (case c50 => k_is)
    (case k50 => k_is)
    (case a51 => k_is)
    (case i51 => k_is)
    (case l51 => k_is)
    (case c51 => k_is)
    (case k51 => k_is)
    (case a52 => k_is)
    (case i52 => k_is)
    (case l52 => k_is)
    (case c52 => k_is)
    (case k52 => k_is)
    (case a53 => k_is)
    (case i53 => k_is)
    (case l53 => k_is)
    (case c53 => k_is)
    (case k53 => k_is)
    (case a54 => k_is)
    (case i54 => k_is)
    (case l54 => k_is)
    (case c54 => k_is)
    (case k54 => k_is)
    (case a55 => k_is)
    (case i55 => k_is)
    (case l55 => k_is)
    (case c55 => k_is)
    (case k55 => k_is)
    (case a56 => k_is)
    (case i56 => k_is)
    (case l56 => k_is)
    (case c56 => k_is)
    (case k56 => k_is)
    (case q56_0 => k_is)
    (case a57 => k_is)
    (case i57 => k_is)
    (case l57 => k_is)
    (case c57 => k_is)
    (case k57 => k_is)
    (case a58 => k_is)
    (case i58 => k_is)
    (case l58 => k_is)
    (case c58 => k_is)
    (case k58 => k_is)
    (case a59 => k_is)
    (case i59 => k_is)
    (case l59 => k_is)
    (case c59 => k_is)
    (case k59 => k_is)
    (case a60 => k_is)
    (case i60 => k_is)
    (case l60 => k_is)
    (case c60 => k_is)
    (case k60 => k_is)
    (case a61 => k_is)
    (case i61 => k_is)
    (case l61 => k_is)
    (case c61 => k_is)
    (case k61 => k_is)
    (case a62 => k_is)
    (case i62 => k_is)
    (case l62 => k_is)
    (case c62 => k_is)
    (case k62 => k_is)
    (case a63 => k_is)
    (case i63 => k_is)
    (case l63 => k_is)
    (case c63 => k_is)
    (case k63 => k_is)
    (case a64 => k_is)
    (case i64 => k_is)
    (case l64 => k_is)
    (case c64 => k_is)
    (case k64 => k_is)
    (case a65 => k_is)
    (case i65 => k_is)
    (case l65 => k_is)
    (case c65 => k_is)
    (case k65 => k_is)
    (case a66 => k_is)
    (case l66 => k_is)
    (case c66 => k_is)
    (case k66 => k_is)
    (case a67 => k_is)
    (case l67 => k_is)
    (case c67 => k_is)
    (case k67 => k_is)
    (case a68 => k_is)
    (case l68 => k_is)
    (case c68 => k_is)
    (case k68 => k_is)
    (case a69 => k_is)
    (case l69 => k_is)
    (case c69 => k_is)
    (case k69 => k_is)
    (case a70 => k_is)
    (case l70 => k_is)
    (case c70 => k_is)
    (case k70 => k_is)
    (case a71 => k_is)
    (case l71 => k_is)
    (case c71 => k_is)
    (case k71 => k_is)
    (case a72 => k_is)
    (case l72 => k_is)
    (case c72 => k_is)
    (case k72 => k_is)
    (case a73 => k_is)
    (case l73 => k_is)
    (case c73 => k_is)
    (case k73 => k_is)
    (case a74 => k_is)
    (case l74 => k_is)
    (case c74 => k_is)
    (case k74 => k_is)
    (case a75 => k_is)
    (case l75 => k_is)
    (case c75 => k_is)
    (case k75 => k_is)
    (case a76 => k_is)
    (case l76 => k_is)
    (case c76 => k_is)
    (case k76 => k_is)
    (case a77 => k_is)
    (case l77 => k_is)
    (case c77 => k_is)
    (case k77 => k_is)
    (case a78 => k_is)
    (case l78 => k_is)
    (case c78 => k_is)
    (case k78 => k_is)
    (case a79 => k_is)
    (case l79 => k_is)
    (case c79 => k_is)
    (case k79 => k_is)
    (case a80 => k_is)
    (case l80 => k_is)
    (case c80 => k_is)
    (case k80 => k_is)
    (case a81 => k_is)
    (case l81 => k_is)
    (case c81 => k_is)
    (case k81 => k_is)
    (case a82 => k_is)
    (case l82 => k_is)
    (case c82 => k_is)
    (case k82 => k_is)
    (case a83 => k_is)
    (case l83 => k_is)
    (case c83 => k_is)
    (case k83 => k_is)
    (case a84 => k_is)
    (case l84 => k_is)
    (case c84 => k_is)
    (case k84 => k_is)
    (case a85 => k_is)
    (case l85 => k_is)
    (case c85 => k_is)
    (case k85 => k_is)
    (case a86 => k_is)
    (case l86 => k_is)
    (case c86 => k_is)
    (case k86 => k_is)
    (case a87 => k_is)
    (case l87 => k_is)
    (case c87 => k_is)
    (case k87 => k_is)
    (case pg0 => k_is)
    (case hd0 => k_is)
    (case po0 => k_is)
    (case sa0 => k_is)
    (case mk0 => k_is)
    (case kc0 => k_is)
    (case na0_pairs => k_is)
    (case na0_wide => k_is)
    (case pg1 => k_is)
    (case hd1 => k_is)
    (case po1 => k_is)
    (case sa1 => k_is)
    (case mk1 => k_is)
    (case kc1 => k_is)
    (case na1_near => k_is)
    (case na1_own_ever => k_is)
    (case na1_own_living => k_is)
    (case pg2 => k_is)
    (case hd2 => k_is)
    (case po2 => k_is)
    (case sa2 => k_is)
    (case mk2 => k_is)
    (case kc2 => k_is)
    (case na2_kept_by_world => k_is)
    (case na2_own_size => k_is)
    (case na2_own_ties => k_is)
    (case on => k_is)
    (case ot => k_is)
    (case oa0 => k_is)
    (case om0 => k_is)
    (case oc0_ => k_is)
    (case oy0 => k_is)
    (case nn0 => k_is)
    (case oa1 => k_is)
    (case om1 => k_is)
    (case oc1_ => k_is)
    (case oy1 => k_is)
    (case nn1 => k_is)
    (case oa2 => k_is)
    (case om2 => k_is)
    (case oc2_ => k_is)
    (case oy2 => k_is)
    (case nn2 => k_is)
    (case g_FEWEST_TIES => k_is)
    (case g_LARGEST => k_is)
    (case z_LookupError => k_is)
    (case z_ValueError => k_is)
    (case z_abs => k_is)
    (case z_all => k_is)
    (case z_any => k_is)
    (case z_bool => k_is)
    (case z_divmod => k_is)
    (case z_int => k_is)
    (case z_isinstance => k_is)
    (case z_len => k_is)
    (case z_list => k_is)
    (case z_max => k_is)
    (case z_min => k_is)
    (case z_range => k_is)
    (case z_repr => k_is)
    (case z_sorted => k_is)
    (case z_sum => k_is)
    (case z_tuple => k_is)
    (case z_zip => k_is)
#print axioms PySem.Challenge.cw_forkthrift_k42_whole_stores_by_deeds_holds


