import PyProof.Rows.All
import Wide.All
import OpenK.AllK
import Wide.FinOn
import HandS.ForMost
import HandS.Slots
import HandS.Deep
import HandS.DictComp
import KE.KEqNest
import KE.SortData
import HandS.Walk
import KE.DataFind
import KE.GoesMore
import HandS.SortOrd
import HandS.Strs
import HandS.Zip
import KE.Datum
import HandS.Wide
import HandS.Conv
import HandS.Finally
import HandS.TupAny
import HandS.IsInst
import HandS.Style
import HandS.Steps
import KE.DatumOrd
import HandS.Star
import PyProof.ReprBulk
import PyProof.ZipIter
import KE.KItemsList
import HandS.ListItems
import PySem.Challenge.RW_calledbest_k06_whole_logs_played
set_option Elab.async false
set_option linter.all false
set_option maxRecDepth 100000
set_option maxHeartbeats 4000000
namespace CB
open PySem PySem.Spec
open PyProof.Rows L2

/-! ### calls in a known surrounding: no repr is running -/
structure RoomG (k : Nat) (A : Around) : Prop where
  rm : Room k A
  gd : A.guards = some []
theorem RoomG.mono {j k : Nat} {A : Around} (r : RoomG k A) (h : j ≤ k) : RoomG j A := ⟨r.rm.mono h, r.gd⟩
theorem RoomG.deeper {k : Nat} {A : Around} (r : RoomG (k + 1) A) (env : Env) : RoomG k (A.deeper env) :=
  ⟨r.rm.deeper env, by first | exact r.gd | (simp [Around.deeper]; exact r.gd)⟩

structure FnG (P : Program) (w : World) (K : PySem.W.Frag) (mg : Str → Option Value) (base : Heap)
    (k : Nat) (f : Addr) (fd : FuncData) (ps : List Str) (sp : Sp) : Prop where
  len : ∀ vs H Q E, sp vs H Q E → vs.length = ps.length
  run : ∀ (A : Around) (outer : List Env) (s : Shared) (H : Hp) (args : Args) (us : List Value)
    (vs : List V) (Q : VK) (E : XK), RoomG k A → Env0 P w K mg base A outer s H →
    BindsTo s fd args (ps.zip us) → Vals vs us → sp vs H Q E →
    codeAny (model P w) A (.call (.ref f) args) (CR CX0 outer P w H s Q E) s

section
variable {P : Program} {w : World} {K : PySem.W.Frag} {mg : Str → Option Value} {base : Heap}
theorem Fun.okG {x qual : Str} {st : Stmt} {f : Addr} {fd : FuncData} {N ps : List Str} {k : Nat} {sp : Sp}
    (F : Fun K x qual st f fd) (S : FnScope N ps (defScope st))
    (len : ∀ vs H Q E, sp vs H Q E → vs.length = ps.length)
    (hbody : ∀ (cdv : Value) (A : Around) (outer : List Env) (s : Shared) (H : Hp) (vs : List V)
      (Q : VK) (E : XK), RoomG k (A.deeper (envOfC qual (defScope st) s.heap.objs.size f cdv)) → sp vs H Q E →
      ∃ t, PSs (cxOf CX0 P w K mg base N qual (defScope st) f cdv A outer s H E).nox (defBody st) t ∧
        t { nx := fun _ H' => Q .non H', rt := Q } (start N vs) H) :
    FnG P w K mg base (k + 1) f fd ps sp := by
  obtain ⟨oc, od, kV, doc, pm, an, cdv, ct, osl, rfl, lk, hcd⟩ := F.ex
  refine ⟨len, ?_⟩
  intro A outer s H args us vs Q E hr e0 hb r hsp
  have h1 : vs.length = ps.length := len _ _ _ _ hsp
  have hK : K.In s.heap := e0.mod.kin.keeps (fun b o e => (e0.bs b o e).1)
  have hL : s.heap.NoLimit := e0.mod.nolimit.keeps (fun b o e => (e0.bs b o e).1)
  have hkd : ∀ y ∈ ps.zip us, (defScope st).names.lookup y.1 = some .local ∨
      ((defScope st).names.lookup y.1 = some .cell ∧
        ((cellsFrom (s.heap.objs.size + 1) (defScope st).names []).lookup y.1).isSome = true) := by
    rintro ⟨n, v⟩ hy
    cases S.par n (List.of_mem_zip hy).1 with
    | inl q => exact Or.inl q
    | inr q => exact Or.inr ⟨q, PySem.W.cellsFrom_some _ _ _ (Or.inl q)⟩
  refine codeAny_call_function hr.rm.depth (hK _ _ lk) rfl S.co S.gen rfl
    (PySem.W.codeRec_of hK hcd) (hb _ _ _ _ ?_)
  refine wpAny_newFunctionEnv_cells S.kind hkd ?_
  intro env he s1 x
  subst he
  refine ⟨hL.keeps x.toInCall.keep, codeAny_func ?_⟩
  obtain ⟨t, ht, hq⟩ := hbody cdv A outer s H vs Q E (hr.deeper _) hsp
  have I := inv_start (CX := CX0) (P := P) (w := w) (E := E) S hr.rm.hd e0 h1 r x
  refine wpAny_mono (ht.nox.run [] s1 (start N vs) H _ I hq) ?_ (fun e s' hs => hs)
  intro fl s' hs
  cases fl with
  | ret u =>
    obtain ⟨v, σ', H', J, rv, q⟩ := hs
    exact ⟨v, H', J.os, J.bare, J.base, J.hok, rv, q⟩
  | next =>
    obtain ⟨σ', H', J, q⟩ := hs
    exact ⟨.non, H', J.os, J.bare, J.base, J.hok, rfl, q⟩
  | brk =>
    obtain ⟨_, _, _, q⟩ := hs
    exact q.elim
  | cont =>
    obtain ⟨_, _, _, q⟩ := hs
    exact q.elim
end

/-! ### a def by its name, with what it promises -/
/-- the def x as it stands -/
structure Def (K : PySem.W.Frag) (mg : Str → Option Value) (x : Str) (st : Stmt) (ps : List Str) : Prop where
  ex : ∃ f fd, Fun K x x st f fd ∧ mg x = some (.ref f) ∧ Binds K fd ps []
/-- the def x keeps the promise sp -/
structure Cal (P : Program) (w : World) (K : PySem.W.Frag) (mg : Str → Option Value) (base : Heap)
    (x : Str) (ps : List Str) (k : Nat) (sp : Sp) : Prop where
  ex : ∃ f fd, FnOk P w K mg base CX0 k f fd ps sp ∧ mg x = some (.ref f) ∧
    PySem.W.keepIn K (.ref f) = true ∧ Binds K fd ps []
structure CalG (P : Program) (w : World) (K : PySem.W.Frag) (mg : Str → Option Value) (base : Heap)
    (x : Str) (ps : List Str) (k : Nat) (sp : Sp) : Prop where
  ex : ∃ f fd, FnG P w K mg base k f fd ps sp ∧ mg x = some (.ref f) ∧
    PySem.W.keepIn K (.ref f) = true ∧ Binds K fd ps []
section
variable {P : Program} {w : World} {K : PySem.W.Frag} {mg : Str → Option Value} {base : Heap}
theorem Def.cal {x : Str} {st : Stmt} {N ps : List Str} {k : Nat} {sp : Sp} (D : Def K mg x st ps)
    (S : FnScope N ps (defScope st)) (len : ∀ vs H Q E, sp vs H Q E → vs.length = ps.length)
    (hbody : ∀ (f : Addr) (cdv : Value) (A : Around) (outer : List Env) (s : Shared) (H : Hp) (vs : List V)
      (Q : VK) (E : XK), Room k (A.deeper (envOfC x (defScope st) s.heap.objs.size f cdv)) → sp vs H Q E →
      ∃ t, PSs (cxOf CX0 P w K mg base N x (defScope st) f cdv A outer s H E).nox (defBody st) t ∧
        t { nx := fun _ H' => Q .non H', rt := Q } (start N vs) H) :
    Cal P w K mg base x ps (k + 1) sp := by
  obtain ⟨f, fd, F, g, b⟩ := D.ex
  exact ⟨f, fd, F.ok S len (hbody f), g, F.kp, b⟩
theorem Def.calG {x : Str} {st : Stmt} {N ps : List Str} {k : Nat} {sp : Sp} (D : Def K mg x st ps)
    (S : FnScope N ps (defScope st)) (len : ∀ vs H Q E, sp vs H Q E → vs.length = ps.length)
    (hbody : ∀ (f : Addr) (cdv : Value) (A : Around) (outer : List Env) (s : Shared) (H : Hp) (vs : List V)
      (Q : VK) (E : XK), RoomG k (A.deeper (envOfC x (defScope st) s.heap.objs.size f cdv)) → sp vs H Q E →
      ∃ t, PSs (cxOf CX0 P w K mg base N x (defScope st) f cdv A outer s H E).nox (defBody st) t ∧
        t { nx := fun _ H' => Q .non H', rt := Q } (start N vs) H) :
    CalG P w K mg base x ps (k + 1) sp := by
  obtain ⟨f, fd, F, g, b⟩ := D.ex
  exact ⟨f, fd, Fun.okG F S len (hbody f), g, F.kp, b⟩
theorem Cal.mono {x : Str} {ps : List Str} {j k : Nat} {sp : Sp} (c : Cal P w K mg base x ps j sp) (h : j ≤ k) :
    Cal P w K mg base x ps k sp := by
  obtain ⟨f, fd, F, r⟩ := c.ex
  exact ⟨f, fd, F.mono h, r⟩
end
section
variable {X : Cx} {x : Str} {ps : List Str} {k : Nat} {sp : Sp} {p pos : Pos} {e : Expr} {es : List Expr} {t : TA}
/-- what the call of a def asks -/
def tCl (sp : Sp) (t : TA) : TE := fun σ H Q => t σ H fun vs H1 => sp vs H1 Q E0
theorem pe_cal (C : Cal X.prog X.w X.K X.mg X.base x ps k sp) (hr : Room k X.A) (ha : PA X (e :: es) t)
    (hg : Gl X x := by rfl) (hdb : (x == ("__debug__" : Str)) = false := by decide)
    (he : starEach (e :: es) X.env = (false, eval e X.env) :: starEach es X.env := by rfl)
    (hpl : (backTo pos (starEach es X.env)).any (·.1) = false := by rfl) :
    PE X (.Call (.Name x p) (e :: es) [] pos) (tCl sp t) := by
  obtain ⟨f, fd, F, g, kp, b⟩ := C.ex
  have h := pe_call (p := p) (pos := pos) F hr hg g kp b .nil pass0 ha hdb he hpl
  have e1 : tCall sp [] E0 t = tCl sp t := by
    funext σ H Q
    show t σ H (fun vs H1 => sp (vs ++ []) H1 Q E0) = t σ H fun vs H1 => sp vs H1 Q E0
    simp only [List.append_nil]
  rw [e1] at h
  exact h
theorem pe_calG (C : CalG X.prog X.w X.K X.mg X.base x ps k sp) (hr : RoomG k X.A) (ha : PA X (e :: es) t)
    (hg : Gl X x := by rfl) (hdb : (x == ("__debug__" : Str)) = false := by decide)
    (he : starEach (e :: es) X.env = (false, eval e X.env) :: starEach es X.env := by rfl)
    (hpl : (backTo pos (starEach es X.env)).any (·.1) = false := by rfl) :
    PE X (.Call (.Name x p) (e :: es) [] pos) (tCl sp t) := by
  obtain ⟨f, fd, F, g, kp, b⟩ := C.ex
  constructor
  intro pins s σ H Q I h
  refine wpAny_Call_Name_kw (ld_glob I hg g ?_ hdb)
  refine PySem.W.callWith_K (h₀ := X.base) I.ok.mod.kin kp ?_ he hpl
  refine thn (ha.run pos pins s σ H _ I h) ?_
  rintro us s1 ⟨vs, H1, I1, r, q⟩
  refine ⟨I1.kIn, ?_⟩
  have hl : (us ++ []).length = ps.length := by
    rw [List.append_nil, ← r.length]
    exact F.len _ _ _ _ q
  have hb := b s1 us I1.kIn hl
  rw [List.append_nil] at hb
  refine wpAny_call (codeAny_mono (F.run X.A X.stack s1 H1 ⟨us, []⟩ us vs Q E0 hr I1.env0 hb r q) ?_)
  intro r s' hq
  cases r with
  | error e => exact False.elim hq
  | ok fl => cases fl with
    | ret u => exact I1.after hq
    | next => exact hq.elim
    | brk => exact hq.elim
    | cont => exact hq.elim
end

/-! ### the law's own call -/
theorem law_callG {P : Program} {w : World} {K : PySem.W.Frag} {mg mb : Str → Option Value} {k : Nat}
    {fa a : Addr} {fd : FuncData} {x : Str} {sp : Sp} {s₁ : Shared} {vs : List Value} {ns : List Int}
    (KX : K.In s₁.heap) (hns : s₁.heap.Ns mainGlobals mg) (hb : s₁.heap.Ns builtinsNs mb)
    (hbb : ∀ x : Str, x ≠ "__name__" → mb x = bootBuiltins x) (hlim : s₁.heap.NoLimit) (hg : s₁.gens = #[])
    (ha : s₁.heap.get? a = some { cls := .type "list", data := .seq vs.toArray }) (hi : IntsAre vs ns)
    (hl : ns.length ≤ sizeLine) (hr : RoomG k callerA)
    (F : ∀ base : Heap, K.In base → base.Ns mainGlobals mg → FnG P w K mg base k fa fd [x] sp)
    (hbind : ∀ (s : Shared) (u : Value), BindsTo s fd ⟨[u], []⟩ [(x, u)])
    (hsp : ∀ H : Hp, Only H → SqL K H a (ns.map V.int) → sp [.ref a] H (fun v _ => v = .bl true) E0) :
    codeAny (model P w) callerA (.call (.ref fa) ⟨[.ref a], []⟩)
      (fun r s' => r = .ok (.ret (.bool true)) ∧ OldK s₁.heap s'.heap ∧ s'.os = s₁.os ∧ AllBare s'.gens) s₁ := by
  have rv : Vals (ns.map V.int) vs := vals_ints hi
  have lenV : vs.length = ns.length := hi.length
  have core : ∀ H : Hp, Only H → SqL K H a (ns.map V.int) → HOk P w H s₁.heap →
      (∀ b, H b ≠ none → b = a) → (H a ≠ none → K.lookup a = none) →
      codeAny (model P w) callerA (.call (.ref fa) ⟨[.ref a], []⟩)
        (fun r s' => r = .ok (.ret (.bool true)) ∧ OldK s₁.heap s'.heap ∧ s'.os = s₁.os ∧ AllBare s'.gens) s₁ := by
    intro H hO hS hok hA hK
    have onlyA : ∀ {b : Addr} {u : HO}, H b = some u → b = a := fun q => hA _ (by rw [q]; simp)
    have ndict : ∀ {b : Addr} {o : Obj} {es : Array DictEntry} {ep : Nat},
        s₁.heap.get? b = some o → o.data = .dict es ep → H b = none := by
      intro b o es ep e d
      cases q : H b with
      | none => rfl
      | some u =>
        have e' := onlyA q
        subst e'
        rw [ha] at e
        cases e
        cases (show Data.seq vs.toArray _ = Data.dict es ep from d)
    have nsK : ∀ {b : Addr} {m : Str → Option Value}, s₁.heap.Ns b m → (hidT s₁.heap H).Ns b m := by
      rintro b m ⟨o, es, ep, e, d, r⟩
      exact ⟨o, es, ep, hidT_get e (ndict e d), d, r⟩
    have hKb : K.In (hidT s₁.heap H) := by
      intro b o e
      refine hidT_get (KX b o e) ?_
      cases q : H b with
      | none => rfl
      | some u =>
        have e' := onlyA q
        subst e'
        rw [hK (by rw [q]; simp)] at e
        cases e
    have hM : Mod K mg (hidT s₁.heap H) := by
      refine ⟨hKb, nsK hns, ⟨mb, nsK hb, hbb⟩, ?_⟩
      obtain ⟨mc, h1, h2⟩ := hlim
      exact ⟨mc, nsK h1, h2⟩
    have e0 : Env0 P w K mg (hidT s₁.heap H) callerA [] s₁ H := by
      refine ⟨rfl, hM, fun b o e => of_hidT e, Nat.le_of_eq (hidT_size _ _), trivial, ?_, hok, .of_eq hg⟩
      intro b hb
      exact absurd (show b ∈ ([] : List Addr) from hb) (by simp)
    have run := (F _ hKb (nsK hns)).run callerA [] s₁ H ⟨[.ref a], []⟩ [.ref a] [.ref a] _ _ hr e0
      (hbind s₁ (.ref a)) (.cons rfl .nil) (hsp H hO hS)
    refine codeAny_mono run ?_
    intro r s' h
    cases r with
    | error e => exact False.elim h
    | ok fl => cases fl with
      | next => exact h.elim
      | brk => exact h.elim
      | cont => exact h.elim
      | ret u =>
        obtain ⟨v, H', os, bare, un, hok', r', q⟩ := h
        obtain rfl : v = .bl true := q
        obtain rfl : u = Value.bool true := r'
        refine ⟨rfl, OldK.of_keep ?_, os, bare⟩
        intro b o e
        cases q : H b with
        | none =>
          refine un.keep b o e q ?_ (by simp)
          intro z
          exact absurd (show b ∈ ([] : List Addr) from z) (by simp)
        | some u =>
          cases hO b with
          | inl z => rw [q] at z; cases z
          | inr z =>
            obtain ⟨ob, xs, z⟩ := z
            obtain ⟨e1, _⟩ := hok b _ z
            obtain ⟨e2, _⟩ := hok' b _ (un.frzs b ob _ z)
            rw [e] at e1
            cases e1
            exact e2
  cases hk : K.lookup a with
  | some o =>
    have e := KX a o hk
    rw [ha] at e
    cases e
    refine core (fun _ => none) (fun _ => Or.inl rfl) ?_ (fun b u z => nomatch z) (fun b z => absurd rfl z) (fun z => absurd rfl z)
    exact Or.inr ⟨_, vs.toArray, _, hk, rfl, rfl, rfl, by rw [List.size_toArray, lenV]; exact hl, by simpa using rv⟩
  | none =>
    let o : Obj := { cls := .type "list", data := .seq vs.toArray }
    let H : Hp := fun b => if b = a then some (.frz o (.lst (ns.map V.int))) else none
    have Ha : H a = some (.frz o (.lst (ns.map V.int))) := if_pos rfl
    have Hn : ∀ b, b ≠ a → H b = none := fun b h => if_neg h
    refine core H ?_ (Or.inl (Or.inr ⟨o, Ha⟩)) ?_ ?_ (fun _ => hk)
    · intro b
      by_cases h : b = a
      · subst h; exact Or.inr ⟨_, _, Ha⟩
      · exact Or.inl (Hn b h)
    · intro b u z
      by_cases h : b = a
      · subst h
        rw [Ha] at z
        cases z
        exact ⟨ha, by rw [List.length_map]; exact hl, vs, _, rv, ha⟩
      · rw [Hn b h] at z; cases z
    · intro b z
      by_cases h : b = a
      · exact h
      · exact absurd (Hn b h) z
theorem walk_ofG {l : PySem.W.OpenLaw} {n k : Nat} {q : Program} {loose : List Str}
    {XP : (Str → Option Value) → Heap → Prop} {YP : World → Heap → Prop} {d : DefRec} {K : Params → PySem.W.Frag}
    {sp : PySem.W.Frag → Sp} {x : Str} (hn : l.most = some n) (hn2 : n ≤ sizeLine) (hdf : d.params.defaults = [])
    (hr : RoomG k callerA) (hY : ∀ (w : World) (h : Heap), YP w h → (K w.params).In h)
    (F : ∀ (w : World) (mg : Str → Option Value) (fa : Addr) (h : Heap), (K w.params).In h → h.Ns mainGlobals mg →
      mg d.name = some (.ref fa) → ∃ fd : FuncData, (∀ (s : Shared) (u : Value), BindsTo s fd ⟨[u], []⟩ [(x, u)]) ∧
        ∀ base : Heap, (K w.params).In base → base.Ns mainGlobals mg →
          FnG l.prog w (K w.params) mg base k fa fd [x] (sp (K w.params)))
    (hsp : ∀ (K : PySem.W.Frag) (H : Hp) (a : Addr) (ns : List Int), ns.length ≤ n → Only H →
      SqL K H a (ns.map V.int) → sp K [.ref a] H (fun v _ => v = .bl true) E0) :
    PySem.W.WalkO q loose XP YP l.row.toRowW d [] (fun f vs => PySem.call f vs) := by
  refine Att.attach_call hn hdf ?_
  intro w s₀ s₁ mg mb fa o pm cd doc a vs ns G Y ho hd hcd hmg hobj hints hlen hg
  have KX := hY w _ Y
  obtain ⟨fd, hb, hF⟩ := F w mg fa _ KX G.T.g hmg
  exact law_callG KX G.T.g G.T.b G.T.builtins G.T.nolimit hg hobj hints (Nat.le_trans hlen hn2) hr hF hb
    fun H hO hS => hsp _ H a ns hlen hO hS
end CB
set_option Elab.async false
set_option linter.all false
set_option maxRecDepth 100000
set_option maxHeartbeats 4000000
namespace CB
open PySem PySem.Spec
open PyProof.Rows L2

/-! ### the heap without some addresses; what is kept -/
def off (H : Hp) (S : List Addr) : Hp := fun a => if a ∈ S then none else H a
theorem off_in {H : Hp} {S : List Addr} {a : Addr} (h : a ∈ S) : off H S a = none := if_pos h
theorem off_out {H : Hp} {S : List Addr} {a : Addr} (h : a ∉ S) : off H S a = H a := if_neg h
theorem off_le {H : Hp} {S : List Addr} : Same (off H S) H := by
  intro b o e
  by_cases h : b ∈ S
  · rw [off_in h] at e; cases e
  · rwa [off_out h] at e
theorem off_nil {H : Hp} : off H [] = H := by
  funext a
  exact off_out (by simp)
theorem off_some {H : Hp} {S : List Addr} {b : Addr} {o : HO} (e : off H S b = some o) : b ∉ S ∧ H b = some o := by
  by_cases h : b ∈ S
  · rw [off_in h] at e; cases e
  · exact ⟨h, by rwa [off_out h] at e⟩
theorem off_of {H : Hp} {S : List Addr} {b : Addr} {o : HO} (h : b ∉ S) (e : H b = some o) : off H S b = some o := by
  rw [off_out h]; exact e
theorem off_none {H : Hp} {S : List Addr} {b : Addr} (e : H b = none) : off H S b = none := by
  unfold off; split
  · rfl
  · exact e
/-- all that is tracked but S is kept -/
def Kp (S : List Addr) (H H' : Hp) : Prop := ∀ c o, c ∉ S → H c = some o → H' c = some o
theorem Kp.refl (S : List Addr) (H : Hp) : Kp S H H := fun _ _ _ h => h
theorem Kp.trans {S : List Addr} {H H1 H2 : Hp} (a : Kp S H H1) (b : Kp S H1 H2) : Kp S H H2 :=
  fun c o n h => b c o n (a c o n h)
theorem Kp.mono {S T : List Addr} {H H' : Hp} (k : Kp S H H') (h : ∀ c, c ∈ S → c ∈ T) : Kp T H H' :=
  fun c o n e => k c o (fun z => n (h c z)) e
theorem Kp.of_same {S : List Addr} {H H' : Hp} (h : Same H H') : Kp S H H' := fun c o _ e => h c o e
theorem Kp.same {H H' : Hp} (k : Kp [] H H') : Same H H' := fun c o e => k c o (by simp) e
theorem Kp.off {S T : List Addr} {H H' : Hp} (k : Kp S H H') (h : ∀ c, c ∈ S → c ∈ T) : Same (off H T) (off H' T) := by
  intro c o e
  obtain ⟨n, e⟩ := off_some e
  exact off_of n (k c o (fun z => n (h c z)) e)
theorem Kp.off' {S : List Addr} {H H' : Hp} (k : Kp S H H') : Same (CB.off H S) (CB.off H' S) := k.off fun _ h => h
theorem Kp.new {S : List Addr} {H : Hp} {a : Addr} {o : HO} (h : H a = none) : Kp S H (upd H a o) := by
  intro c u _ e
  rw [upd_ne (ne_of_none e h)]
  exact e
theorem Kp.wr {S : List Addr} {H : Hp} {a : Addr} {o : HO} (h : a ∈ S) : Kp S H (upd H a o) := by
  intro c u n e
  rw [upd_ne (fun z => n (by rw [z]; exact h))]
  exact e
theorem Kp.free {S : List Addr} {H H' : Hp} (k : Kp S H H') {a : Addr} (n : a ∉ S) (h : H' a = none) : H a = none := by
  cases e : H a with
  | none => rfl
  | some o => rw [k a o n e] at h; cases h
theorem off_mono {H : Hp} {S T : List Addr} (h : ∀ c, c ∈ S → c ∈ T) : Same (off H T) (off H S) := by
  intro c o e
  obtain ⟨n, e⟩ := off_some e
  exact off_of (fun z => n (h c z)) e
theorem same_new {H : Hp} {p : Addr} {o : HO} (h : H p = none) : Same H (upd H p o) := by
  intro c u e
  rw [upd_ne (ne_of_none e h)]
  exact e
end CB
namespace L2
open PySem CB
/-- a write at an address that A does not know -/
theorem Same.wr {A H : Hp} {p : Addr} {o : HO} (s : Same A H) (h : A p = none) : Same A (upd H p o) := by
  intro c u e
  rw [upd_ne (ne_of_none e h)]
  exact s c u e
theorem Same.rd {A H : Hp} (e : Same A H) {a : Addr} {u : HO} (h : Rd A a u) : Rd H a u := by
  rcases h with h | ⟨o, h⟩
  · exact Or.inl (e _ _ h)
  · exact Or.inr ⟨o, e _ _ h⟩
theorem Same.sqt {K : PySem.W.Frag} {A H : Hp} {a : Addr} {xs : List V} (e : Same A H) (h : SqT K A a xs) : SqT K H a xs := by
  rcases h with h | h
  · exact Or.inl (Same.rd e h)
  · exact Or.inr h
theorem Same.sql {K : PySem.W.Frag} {A H : Hp} {a : Addr} {xs : List V} (e : Same A H) (h : SqL K A a xs) : SqL K H a xs := by
  rcases h with h | h
  · exact Or.inl (Same.rd e h)
  · exact Or.inr h

end L2
namespace CB
open PySem PySem.Spec
open PyProof.Rows L2
/-! ### data of any depth, dicts too -/
def keyD : Key → PyData
  | .inl i => .int i
  | .inr x => .str x
mutual
inductive Dq (K : PySem.W.Frag) (H : Hp) : V → PyData → Prop
  | non : Dq K H .non .none
  | bl (b : Bool) : Dq K H (.bl b) (.bool b)
  | int (i : Int) : Dq K H (.int i) (.int i)
  | str (x : Str) : Dq K H (.str x) (.str x)
  | lst {a : Addr} {xs : List V} {ds : List PyData} : SqL K H a xs → DqAll K H xs ds → Dq K H (.ref a) (.list ds)
  | tup {a : Addr} {xs : List V} {ds : List PyData} : SqT K H a xs → DqAll K H xs ds → Dq K H (.ref a) (.tuple ds)
  | dic {a : Addr} {kvs : List (Key × V)} {es : List (PyData × PyData)} : H a = some (.dK kvs) → DqKv K H kvs es →
      Dq K H (.ref a) (.dict es)
inductive DqAll (K : PySem.W.Frag) (H : Hp) : List V → List PyData → Prop
  | nil : DqAll K H [] []
  | cons {v : V} {vs : List V} {d : PyData} {ds : List PyData} : Dq K H v d → DqAll K H vs ds → DqAll K H (v :: vs) (d :: ds)
inductive DqKv (K : PySem.W.Frag) (H : Hp) : List (Key × V) → List (PyData × PyData) → Prop
  | nil : DqKv K H [] []
  | cons {k : Key} {v : V} {d : PyData} {vs : List (Key × V)} {es : List (PyData × PyData)} : Dq K H v d → DqKv K H vs es →
      DqKv K H ((k, v) :: vs) ((keyD k, d) :: es)
end
section
variable {K : PySem.W.Frag} {A H : Hp}
mutual
theorem Dq.mono (e : Same A H) : ∀ {v : V} {d : PyData}, Dq K A v d → Dq K H v d
  | _, _, .non => .non
  | _, _, .bl b => .bl b
  | _, _, .int i => .int i
  | _, _, .str x => .str x
  | _, _, .lst h1 h2 => .lst (Same.sql e h1) (DqAll.mono e h2)
  | _, _, .tup h1 h2 => .tup (Same.sqt e h1) (DqAll.mono e h2)
  | _, _, .dic h1 h2 => .dic (e _ _ h1) (DqKv.mono e h2)
theorem DqAll.mono (e : Same A H) : ∀ {vs : List V} {ds : List PyData}, DqAll K A vs ds → DqAll K H vs ds
  | _, _, .nil => .nil
  | _, _, .cons h1 h2 => .cons (Dq.mono e h1) (DqAll.mono e h2)
theorem DqKv.mono (e : Same A H) : ∀ {vs : List (Key × V)} {es : List (PyData × PyData)}, DqKv K A vs es → DqKv K H vs es
  | _, _, .nil => .nil
  | _, _, .cons h1 h2 => .cons (Dq.mono e h1) (DqKv.mono e h2)
end
theorem DqAll.length : ∀ {vs : List V} {ds : List PyData}, DqAll K H vs ds → vs.length = ds.length
  | _, _, .nil => rfl
  | _, _, .cons _ h2 => congrArg (· + 1) h2.length
end
end CB
namespace L2
open PySem PySem.Spec
open PyProof.Rows CB
section
variable {K : PySem.W.Frag} {A H : Hp}
mutual
theorem Dp.mono (e : Same A H) : ∀ {v : V} {d : PyData}, Dp K A v d → Dp K H v d
  | _, _, .non => .non
  | _, _, .bl b => .bl b
  | _, _, .int i => .int i
  | _, _, .str x => .str x
  | _, _, .lst h1 h2 => .lst (Same.sql e h1) (DpAll.mono e h2)
  | _, _, .tup h1 h2 => .tup (Same.sqt e h1) (DpAll.mono e h2)
theorem DpAll.mono (e : Same A H) : ∀ {vs : List V} {ds : List PyData}, DpAll K A vs ds → DpAll K H vs ds
  | _, _, .nil => .nil
  | _, _, .cons h1 h2 => .cons (Dp.mono e h1) (DpAll.mono e h2)
end
mutual
theorem Dp.dq : ∀ {v : V} {d : PyData}, Dp K H v d → Dq K H v d
  | _, _, .non => .non
  | _, _, .bl b => .bl b
  | _, _, .int i => .int i
  | _, _, .str x => .str x
  | _, _, .lst h1 h2 => .lst h1 (DpAll.dq h2)
  | _, _, .tup h1 h2 => .tup h1 (DpAll.dq h2)
theorem DpAll.dq : ∀ {vs : List V} {ds : List PyData}, DpAll K H vs ds → DqAll K H vs ds
  | _, _, .nil => .nil
  | _, _, .cons h1 h2 => .cons (Dp.dq h1) (DpAll.dq h2)
end
theorem DpAll.length : ∀ {vs : List V} {ds : List PyData}, DpAll K H vs ds → vs.length = ds.length
  | _, _, .nil => rfl
  | _, _, .cons _ h2 => congrArg (· + 1) h2.length
theorem DpAll.get : ∀ {vs : List V} {ds : List PyData} {i : Nat} {v : V}, DpAll K H vs ds → vs[i]? = some v → ∃ d, ds[i]? = some d ∧ Dp K H v d
  | _, _, _, _, .nil, e => by simp at e
  | _, _, 0, _, .cons h _, e => by
    simp at e; subst e; exact ⟨_, rfl, h⟩
  | _, _, i + 1, v, .cons _ h, e => by
    obtain ⟨d, e1, e2⟩ := DpAll.get (i := i) h (by simpa using e)
    exact ⟨d, by simpa using e1, e2⟩
theorem DpAll.getD : ∀ {vs : List V} {ds : List PyData} {i : Nat} {d : PyData}, DpAll K H vs ds → ds[i]? = some d → ∃ v, vs[i]? = some v ∧ Dp K H v d
  | _, _, _, _, .nil, e => by simp at e
  | _, _, 0, _, .cons h _, e => by
    simp at e; subst e; exact ⟨_, rfl, h⟩
  | _, _, i + 1, v, .cons _ h, e => by
    obtain ⟨d, e1, e2⟩ := DpAll.getD (i := i) h (by simpa using e)
    exact ⟨d, by simpa using e1, e2⟩
theorem DpAll.append : ∀ {vs ws : List V} {ds es : List PyData}, DpAll K H vs ds → DpAll K H ws es → DpAll K H (vs ++ ws) (ds ++ es)
  | _, _, _, _, .nil, h => h
  | _, _, _, _, .cons a b, h => .cons a (b.append h)
theorem DpAll.one {v : V} {d : PyData} (h : Dp K H v d) : DpAll K H [v] [d] := .cons h .nil
theorem DpAll.strs : ∀ (xs : List Str), DpAll K H (xs.map V.str) (xs.map PyData.str)
  | [] => .nil
  | x :: xs => .cons (.str x) (DpAll.strs xs)
theorem DpAll.ints : ∀ (xs : List Int), DpAll K H (xs.map V.int) (xs.map PyData.int)
  | [] => .nil
  | x :: xs => .cons (.int x) (DpAll.ints xs)
theorem DpAll.strs_inv : ∀ {vs : List V} {xs : List Str}, DpAll K H vs (xs.map PyData.str) → vs = xs.map V.str
  | _, [], .nil => rfl
  | _, _ :: _, .cons (.str _) h => congrArg (_ :: ·) h.strs_inv
theorem DpAll.ints_inv : ∀ {vs : List V} {xs : List Int}, DpAll K H vs (xs.map PyData.int) → vs = xs.map V.int
  | _, [], .nil => rfl
  | _, _ :: _, .cons (.int _) h => congrArg (_ :: ·) h.ints_inv
theorem DpAll.take {vs : List V} {ds : List PyData} (n : Nat) (h : DpAll K H vs ds) : DpAll K H (vs.take n) (ds.take n) := by
  induction n generalizing vs ds with
  | zero => exact .nil
  | succ n ih =>
    cases h with
    | nil => exact .nil
    | cons a b => exact .cons a (ih b)
theorem DpAll.reverse : ∀ {vs : List V} {ds : List PyData}, DpAll K H vs ds → DpAll K H vs.reverse ds.reverse
  | _, _, .nil => .nil
  | _, _, .cons a b => by
    rw [List.reverse_cons, List.reverse_cons]
    exact b.reverse.append (.one a)
theorem DpAll.drop {vs : List V} {ds : List PyData} (n : Nat) (h : DpAll K H vs ds) : DpAll K H (vs.drop n) (ds.drop n) := by
  induction n generalizing vs ds with
  | zero => exact h
  | succ n ih =>
    cases h with
    | nil => exact .nil
    | cons a b => exact ih b
/-- a tuple's parts -/
theorem Dp.tup_inv {v : V} {ds : List PyData} (h : Dp K H v (.tuple ds)) : ∃ a xs, v = .ref a ∧ SqT K H a xs ∧ DpAll K H xs ds := by
  cases h with
  | tup h1 h2 => exact ⟨_, _, rfl, h1, h2⟩
theorem Dp.lst_inv {v : V} {ds : List PyData} (h : Dp K H v (.list ds)) : ∃ a xs, v = .ref a ∧ SqL K H a xs ∧ DpAll K H xs ds := by
  cases h with
  | lst h1 h2 => exact ⟨_, _, rfl, h1, h2⟩
theorem DpAll.two_inv {xs : List V} {d e : PyData} (h : DpAll K H xs [d, e]) : ∃ v u, xs = [v, u] ∧ Dp K H v d ∧ Dp K H u e := by
  cases h with
  | cons a b => cases b with
    | cons c r => cases r; exact ⟨_, _, rfl, a, c⟩
theorem DpAll.three_inv {xs : List V} {d e f : PyData} (h : DpAll K H xs [d, e, f]) :
    ∃ v u t, xs = [v, u, t] ∧ Dp K H v d ∧ Dp K H u e ∧ Dp K H t f := by
  cases h with
  | cons a b => cases b with
    | cons c r => cases r with
      | cons d r => cases r; exact ⟨_, _, _, rfl, a, c, d⟩
theorem Dp.str_inv {v : V} {x : Str} (h : Dp K H v (.str x)) : v = .str x := by cases h; rfl
theorem Dp.int_inv {v : V} {x : Int} (h : Dp K H v (.int x)) : v = .int x := by cases h; rfl
end
end L2
namespace CB
open PySem PySem.Spec
open PyProof.Rows L2

/-! ### reading it off the heap -/
section
variable {X : Cx} {pins : List (Addr × Obj)} {σ : L2.St} {H : Hp} {s : Shared}
/-- an entry's key and value -/
theorem ent_reads {P : Program} {w : World} {h : Heap} {k : Key} {u : Value} (e : (mixKind P w).is k u = true) : Reads h u (keyD k) [] := by
  rcases keyIs_shape (show keyIs k u = true from e) with ⟨i, t, rfl, rfl⟩ | ⟨x, t, rfl, rfl⟩
  · exact Reads.int i t
  · exact Reads.str x t
mutual
theorem Dq.reads (I : Inv X pins σ H s) : ∀ (d : PyData) (v : V) (u : Value), Dq X.K H v d → RelV v u → d.showable = true →
    d.shown.length ≤ sizeLine → ∃ as bs, Reads s.heap u d as ∧ ReadAtMost s.heap d.depth bs ∧ ReprK X.prog X.w bs s.heap d.depth u d.shown
  | .none, _, _, h, r, _, _ => by
    cases h; cases r
    exact ⟨_, [], Reads.none, (fun _ h => nomatch h), by simp only [PyData.shown]; exact .of_is ReprIs.none _ _ _⟩
  | .bool b, _, _, h, r, _, _ => by
    cases h; cases r
    exact ⟨_, [], Reads.bool b, (fun _ h => nomatch h), by simp only [PyData.shown]; exact .of_is (ReprIs.bool b) _ _ _⟩
  | .int i, _, _, h, r, hs, _ => by
    cases h
    obtain ⟨t, rfl⟩ := r
    exact ⟨_, [], Reads.int i t, (fun _ h => nomatch h),
      by simp only [PyData.shown]; exact .of_is (ReprIs.int t (by simpa [PyData.showable] using hs)) _ _ _⟩
  | .str x, _, _, h, r, _, hz => by
    cases h
    obtain ⟨t, rfl⟩ := r
    exact ⟨_, [], Reads.str x t, (fun _ h => nomatch h),
      by simp only [PyData.shown]; exact .of_is (ReprIs.str x t (by simpa only [PyData.shown] using hz)) _ _ _⟩
  | .list ds, _, _, h, r, hs, hz => by
    cases h with
    | lst h1 h2 =>
      rename_i a xs
      cases r
      obtain ⟨its, rv, ⟨o, n, ho, hc, _, hd⟩, _⟩ := I.list h1
      have hz' : (listText (PyData.shownAll ds)).length ≤ sizeLine := by simpa only [PyData.shown] using hz
      obtain ⟨as, bs, q1, q2, q3⟩ := Dq.readsAll I ds _ its h2 rv (by simpa [PyData.showable] using hs)
        (fun t ht => Nat.le_trans (listText_mem_le ht) hz')
      have rr : Reads s.heap (.ref a) (.list ds) _ := .list ho hc hd (by simpa using q1)
      have hna : a ∉ bs := not_mem_of_deeper rr (by simp only [PyData.depth]; omega) q2
      refine ⟨_, a :: bs, rr, ReadAtMost.cons rr (by simp only [PyData.depth]; omega) q2, ?_⟩
      simp only [PyData.depth, PyData.shown]
      cases its with
      | nil =>
        cases rv
        cases h2
        simp only [PyData.shownAll]
        rw [listText_nil]
        exact ReprK.listEmpty ho hc hd
      | cons x l => exact ReprK.list ho hc hd hna (by simpa using q3.length_eq) (fun i y e => q3.item i y (by simpa using e))
  | .tuple ds, _, _, h, r, hs, hz => by
    cases h with
    | tup h1 h2 =>
      rename_i a xs
      cases r
      obtain ⟨its, rv, ⟨o, ho, hc, n, hd⟩, _⟩ := I.tuple h1
      have hz' : (tupleText (PyData.shownAll ds)).length ≤ sizeLine := by simpa only [PyData.shown] using hz
      obtain ⟨as, bs, q1, q2, q3⟩ := Dq.readsAll I ds _ its h2 rv (by simpa [PyData.showable] using hs)
        (fun t ht => Nat.le_trans (tupleText_mem_le ht) hz')
      have rr : Reads s.heap (.ref a) (.tuple ds) _ := .tuple ho hc hd (by simpa using q1)
      have hna : a ∉ bs := not_mem_of_deeper rr (by simp only [PyData.depth]; omega) q2
      refine ⟨_, a :: bs, rr, ReadAtMost.cons rr (by simp only [PyData.depth]; omega) q2, ?_⟩
      simp only [PyData.depth, PyData.shown]
      exact ReprK.tuple ho hc hd hna (by simpa using q3)
  | .dict es, _, _, h, r, hs, hz => by
    cases h with
    | dic h1 h2 =>
      rename_i a kvs
      cases r
      obtain ⟨_, hsys, vs, rel, o, ents, ep, ho, hx, hd, _, hp, _⟩ := dk_of I.hok h1
      have hz' : (dictText (PyData.shownKv es)).length ≤ sizeLine := by simpa only [PyData.shown] using hz
      obtain ⟨hs1, hs2⟩ := PyData.showableKv_split es (by simpa [PyData.showable] using hs)
      obtain ⟨as, bs, bs2, k1, v1, r1, e1⟩ := Dq.readsKv I es kvs vs ents.toList h2 rel hp (by simpa [PyData.showable] using hs)
        (fun t ht => Nat.le_trans (dictText_mem_le ht) hz')
      have rr : Reads s.heap (.ref a) (.dict es) _ := .dict ho hx.1 hd k1 v1
      have hna : a ∉ bs := not_mem_of_deeper rr (by simp only [PyData.depth]; omega) r1
      refine ⟨_, a :: bs, rr, ReadAtMost.cons rr (by simp only [PyData.depth]; omega) r1, ?_⟩
      simp only [PyData.depth, PyData.shown]
      exact ReprK.dict ho hx.1 hd hsys hna e1
theorem Dq.readsAll (I : Inv X pins σ H s) : ∀ (ds : List PyData) (vs : List V) (us : List Value), DqAll X.K H vs ds → Vals vs us →
    PyData.showableAll ds = true → (∀ t ∈ PyData.shownAll ds, t.length ≤ sizeLine) → ∃ as bs, ReadsAll s.heap us ds as ∧
    ReadAtMost s.heap (PyData.depthAll ds) bs ∧ ReprAllK X.prog X.w bs s.heap (PyData.depthAll ds) us (PyData.shownAll ds)
  | [], _, _, h, r, _, _ => by
    cases h; cases r
    exact ⟨_, [], ReadsAll.nil, (fun _ h => nomatch h), by simp only [PyData.shownAll]; exact .nil⟩
  | d :: ds, _, _, h, r, hs, hz => by
    cases h with
    | cons h1 h2 =>
      cases r with
      | cons r1 r2 =>
        have hs' : d.showable = true ∧ PyData.showableAll ds = true := by simpa [PyData.showableAll] using hs
        obtain ⟨as, bs, q1, q2, q3⟩ := Dq.reads I d _ _ h1 r1 hs'.1 (hz _ (by simp only [PyData.shownAll]; exact List.mem_cons_self ..))
        obtain ⟨as', bs', p1, p2, p3⟩ := Dq.readsAll I ds _ _ h2 r2 hs'.2
          (fun t ht => hz t (by simp only [PyData.shownAll]; exact List.mem_cons_of_mem _ ht))
        refine ⟨_, bs ++ bs', ReadsAll.cons q1 p1, ?_, ?_⟩
        · simp only [PyData.depthAll]
          exact (q2.mono (Nat.le_max_left _ _)).append (p2.mono (Nat.le_max_right _ _))
        · simp only [PyData.depthAll, PyData.shownAll]
          exact .cons ((q3.more fun b hb => List.mem_append_left _ hb).level_le (Nat.le_max_left _ _))
            (p3.more_le (fun b hb => List.mem_append_right _ hb) (Nat.le_max_right _ _))
theorem Dq.readsKv (I : Inv X pins σ H s) : ∀ (es : List (PyData × PyData)) (kvs : List (Key × V)) (vs : List (Key × Value)) (ents : List DictEntry),
    DqKv X.K H kvs es → KV kvs vs → Pairs (mixKind X.prog X.w) ents vs → PyData.showableKv es = true →
    (∀ t ∈ PyData.shownKv es, t.length ≤ sizeLine) → ∃ as bs bs', ReadsAll s.heap (ents.map (·.key)) (es.map (·.1)) as ∧
    ReadsAll s.heap (ents.map (·.val)) (es.map (·.2)) bs' ∧ ReadAtMost s.heap (PyData.depthKv es) bs ∧
    ReprEntriesK X.prog X.w bs s.heap (PyData.depthKv es) ents (PyData.shownKv es)
  | [], _, _, _, h, r, p, _, _ => by
    cases h; cases r; cases p
    exact ⟨_, [], _, ReadsAll.nil, ReadsAll.nil, (fun _ h => nomatch h), by simp only [PyData.shownKv]; exact .nil⟩
  | (kd, d) :: es, _, _, _, h, r, p, hs, hz => by
    cases h with
    | cons h1 h2 =>
      rename_i k v kvs
      cases r with
      | cons r1 r2 =>
        cases p with
        | cons p1 p2 p3 =>
          rename_i ee ees
          obtain ⟨rk, rv⟩ := r1
          have hs' : ((keyD k).showable = true ∧ d.showable = true) ∧ PyData.showableKv es = true := by simpa [PyData.showableKv] using hs
          have hz0 : (PyData.shown (keyD k) ++ ": " ++ PyData.shown d).length ≤ sizeLine :=
            hz _ (by simp only [PyData.shownKv]; exact List.mem_cons_self ..)
          rw [strLen_append, strLen_append] at hz0
          obtain ⟨as, bs, q1, q2, q3⟩ := Dq.reads I d _ _ h1 rv hs'.1.2 (by omega)
          obtain ⟨as', bs', bs2, t1, t2, t3, t4⟩ := Dq.readsKv I es _ _ _ h2 r2 p3 hs'.2
            (fun t ht => hz t (by simp only [PyData.shownKv]; exact List.mem_cons_of_mem _ ht))
          rw [← rk] at p1
          have kr : Reads s.heap ee.key (keyD k) [] := ent_reads p1
          refine ⟨_, bs ++ bs', _, ReadsAll.cons kr t1, ReadsAll.cons (by show Reads s.heap (DictEntry.val _) d _; rw [p2]; exact q1) t2, ?_, ?_⟩
          · simp only [PyData.depthKv]
            refine (q2.mono ?_).append (t3.mono (Nat.le_max_right _ _))
            omega
          · have keyR : ReprK X.prog X.w (bs ++ bs') s.heap (max (max (PyData.depth (keyD k)) (PyData.depth d)) (PyData.depthKv es)) ee.key (PyData.shown (keyD k)) := by
              rcases keyIs_shape (show keyIs k _ = true from p1) with ⟨i, t, e1, e2⟩ | ⟨x, t, e1, e2⟩
              · rw [e2]
                subst e1
                refine .of_is (?_ : ReprIs X.prog X.w (.int i t) (PyData.shown (.int i))) _ _ _
                simp only [PyData.shown]
                exact ReprIs.int t (by simpa [keyD, PyData.showable] using hs'.1.1)
              · rw [e2]
                subst e1
                refine .of_is (?_ : ReprIs X.prog X.w (.str x t) (PyData.shown (.str x))) _ _ _
                simp only [PyData.shown]
                refine ReprIs.str x t ?_
                have : (PyData.shown (.str x)).length ≤ sizeLine := by
                  show (PyData.shown (keyD (.inr x))).length ≤ sizeLine
                  omega
                simpa only [PyData.shown] using this
            have entW : ∀ {as as' : List Addr} {m n : Nat} {l : List DictEntry} {ts : List Str}, (∀ b ∈ as, b ∈ as') → m ≤ n →
                ReprEntriesK X.prog X.w as s.heap m l ts → ReprEntriesK X.prog X.w as' s.heap n l ts := by
              intro as as' m n l ts hsub hmn h
              induction h with
              | nil => exact .nil
              | cons a b _ ih => exact .cons ((a.more hsub).level_le hmn) ((b.more hsub).level_le hmn) ih
            simp only [PyData.depthKv, PyData.shownKv]
            refine .cons keyR ?_ (entW (fun b hb => List.mem_append_right _ hb) (Nat.le_max_right _ _) t4)
            rw [p2]
            refine (q3.more fun b hb => List.mem_append_left _ hb).level_le ?_
            omega
end
end
end CB
set_option Elab.async false
set_option linter.all false
set_option maxRecDepth 100000
set_option maxHeartbeats 4000000
namespace CB
open PySem PySem.Spec
open PyProof.Rows L2

/-! ### == of equal data -/
theorem all_true (n : Nat) : ((List.range n).all fun _ => true) = true := List.all_eq_true.mpr fun _ _ => rfl
section
variable {X : Cx} {pins : List (Addr × Obj)} {σ : L2.St} {H : Hp} {s : Shared}
abbrev Tr (X : Cx) (s : Shared) (n : Nat) (u v : Value) : Prop := PySem.W.EqTree X.prog X.w s n u v true
theorem vals_at {xs : List V} {us : List Value} (r : Vals xs us) {j : Nat} (h : j < us.length) : ∃ x, xs[j]? = some x ∧ RelV x us[j] := by
  have hl : j < xs.length := by rw [r.length]; exact h
  obtain ⟨u, e, q⟩ := r.get (List.getElem?_eq_getElem hl)
  rw [List.getElem?_eq_getElem h] at e
  cases e
  exact ⟨_, List.getElem?_eq_getElem hl, q⟩
theorem tr_mono {n m : Nat} (h : n ≤ m) : ∀ {u v : Value} {b : Bool}, PySem.W.EqTree X.prog X.w s n u v b → PySem.W.EqTree X.prog X.w s m u v b := by
  intro u v b t
  induction t generalizing m with
  | leaf f => exact .leaf fun A hu => f A (by omega)
  | same => exact .same
  | lists h1 h2 h3 h4 _ ih =>
    obtain ⟨m, rfl⟩ : ∃ k, m = k + 1 := ⟨m - 1, by omega⟩
    exact .lists h1 h2 h3 h4 fun j a b => ih j a b (by omega)
  | listsLen h1 h2 h3 h4 =>
    obtain ⟨m, rfl⟩ : ∃ k, m = k + 1 := ⟨m - 1, by omega⟩
    exact .listsLen h1 h2 h3 h4
  | tuples h1 h2 h3 _ ih =>
    obtain ⟨m, rfl⟩ : ∃ k, m = k + 1 := ⟨m - 1, by omega⟩
    exact .tuples h1 h2 h3 fun j a b => ih j a b (by omega)
  | dicts h1 h2 h3 h4 h5 _ ih =>
    obtain ⟨m, rfl⟩ : ∃ k, m = k + 1 := ⟨m - 1, by omega⟩
    exact .dicts h1 h2 h3 h4 h5 fun k v y a b => ih k v y a b (by omega)
theorem kv_get {kvs : List (Key × V)} {vs : List (Key × Value)} (r : KV kvs vs) : ∀ {k : Key} {v : Value}, (k, v) ∈ vs →
    ∃ x, (k, x) ∈ kvs ∧ RelV x v := by
  intro k v h
  unfold KV at r
  induction r with
  | nil => cases h
  | @cons p q ps qs a _ ih =>
    rcases List.mem_cons.mp h with e | h
    · rw [← e] at a
      obtain ⟨e1, e2⟩ := a
      obtain ⟨p1, p2⟩ := p
      have e1' : p1 = k := e1
      subst e1'
      exact ⟨p2, List.mem_cons_self, e2⟩
    · obtain ⟨x, m, q⟩ := ih h
      exact ⟨x, List.mem_cons_of_mem _ m, q⟩
theorem valueAt_mem {vs : List (Key × Value)} {k : Key} {v : Value} (h : valueAt vs k = some v) : (k, v) ∈ vs := by
  unfold valueAt at h
  cases e : vs.find? (fun kv => decide (kv.1 = k)) with
  | none => rw [e] at h; cases h
  | some p =>
    rw [e] at h
    have h1 := List.mem_of_find?_eq_some e
    have h2 : p.1 = k := of_decide_eq_true (by have := List.find?_some e; exact this)
    obtain ⟨a, b⟩ := p
    cases h
    have h2' : a = k := h2
    rw [← h2']
    exact h1
theorem valueAt_has {vs : List (Key × Value)} {k : Key} (h : k ∈ vs.map (·.1)) : (valueAt vs k).isSome = true := by
  unfold valueAt
  cases e : vs.find? (fun kv => decide (kv.1 = k)) with
  | none =>
    obtain ⟨p, hp, rfl⟩ := List.mem_map.mp h
    have := List.find?_eq_none.mp e p hp
    exact absurd (decide_eq_true (rfl : p.1 = p.1)) this
  | some p => rfl
theorem keyD_inj {k l : Key} (h : keyD k = keyD l) : k = l := by
  cases k <;> cases l <;> simp only [keyD, PyData.int.injEq, PyData.str.injEq, reduceCtorEq] at h
  · rw [h]
  · rw [h]
theorem DqKv.keys {K : PySem.W.Frag} {A B : Hp} : ∀ {ks ls : List (Key × V)} {es : List (PyData × PyData)}, DqKv K A ks es → DqKv K B ls es → ks.map (·.1) = ls.map (·.1)
  | _, _, _, .nil, .nil => rfl
  | _, _, (_, _) :: _, h, h' => by
    generalize hE : (_ :: _ : List (PyData × PyData)) = E at h h'
    cases h with
    | nil => cases hE
    | cons a b =>
      cases hE
      generalize hE' : (_ :: _ : List (PyData × PyData)) = E' at h'
      cases h' with
      | nil => cases hE'
      | cons c d =>
        injection hE' with e1 e2
        injection e1 with e3 e4
        subst e2
        have ek := keyD_inj e3
        rw [List.map_cons, List.map_cons, DqKv.keys b d]
        rw [show (_, _).1 = _ from ek] <;> rfl
theorem kv_keys {kvs : List (Key × V)} {vs : List (Key × Value)} (r : KV kvs vs) : kvs.map (·.1) = vs.map (·.1) := by
  unfold KV at r
  induction r with
  | nil => rfl
  | cons a _ ih => rw [List.map_cons, List.map_cons, ih, a.1]
mutual
theorem Dq.tree (I : Inv X pins σ H s) : ∀ (d : PyData) (x y : V) (u v : Value), Dq X.K H x d → Dq X.K H y d → RelV x u → RelV y v → Tr X s d.depth u v
  | .none, _, _, _, _, h, h', r, r' => by
    cases h; cases h'
    exact .leaf fun A _ => eqAt_same r r' rfl
  | .bool b, _, _, _, _, h, h', r, r' => by
    cases h; cases h'
    exact .leaf fun A _ => eqAt_same r r' rfl
  | .int i, _, _, _, _, h, h', r, r' => by
    cases h; cases h'
    exact .leaf fun A _ => eqAt_same r r' rfl
  | .str x, _, _, _, _, h, h', r, r' => by
    cases h; cases h'
    exact .leaf fun A _ => eqAt_same r r' rfl
  | .list ds, _, _, _, _, h, h', r, r' => by
    cases h with
    | lst h1 h2 => cases h' with
      | lst h3 h4 =>
        rename_i a xs b ys
        cases r; cases r'
        by_cases e : a = b
        · subst e
          exact .same
        · obtain ⟨us, r1, p1, _⟩ := I.list h1
          obtain ⟨ws, r2, p2, _⟩ := I.list h3
          have hsz : us.toArray.size = ws.toArray.size := by
            rw [List.size_toArray, List.size_toArray, ← r1.length, ← r2.length, h2.length, h4.length]
          have t := PySem.W.EqTree.lists (prog := X.prog) (w := X.w) (s := s) (e := fun _ => true) e p1.isList p2.isList hsz
            (Dq.trees I ds _ _ us ws h2 h4 r1 r2)
          rw [all_true] at t
          simp only [PyData.depth]
          exact t
  | .tuple ds, _, _, _, _, h, h', r, r' => by
    cases h with
    | tup h1 h2 => cases h' with
      | tup h3 h4 =>
        rename_i a xs b ys
        cases r; cases r'
        by_cases e : a = b
        · subst e
          exact .same
        · obtain ⟨us, r1, p1, _⟩ := I.tuple h1
          obtain ⟨ws, r2, p2, _⟩ := I.tuple h3
          have hsz : us.toArray.size = ws.toArray.size := by
            rw [List.size_toArray, List.size_toArray, ← r1.length, ← r2.length, h2.length, h4.length]
          have t := PySem.W.EqTree.tuples (prog := X.prog) (w := X.w) (s := s) (e := fun _ => true) e p1 p2
            (Dq.trees I ds _ _ us ws h2 h4 r1 r2)
          rw [all_true, hsz, beq_self_eq_true, Bool.and_self] at t
          simp only [PyData.depth]
          exact t
  | .dict es, _, _, _, _, h, h', r, r' => by
    cases h with
    | dic h1 h2 => cases h' with
      | dic h3 h4 =>
        rename_i a ks b ls
        cases r; cases r'
        by_cases e : a = b
        · subst e
          exact .same
        · obtain ⟨_, ya, va, ra, da⟩ := dk_of I.hok h1
          obtain ⟨_, yb, vb, rb, db⟩ := dk_of I.hok h3
          have hk : va.map (·.1) = vb.map (·.1) := by rw [← kv_keys ra, ← kv_keys rb]; exact h2.keys h4
          have hna : (va.map (·.1)).Nodup := by obtain ⟨_, _, _, _, _, _, _, _, n⟩ := da; exact n
          have t := PySem.W.EqTree.dicts (prog := X.prog) (w := X.w) (s := s) (e := fun _ => true) e ya yb da db
            (Dq.treeKv I es _ _ va vb h2 h4 ra rb hna hk)
          have hl : va.length = vb.length := by have := congrArg List.length hk; simpa using this
          have ha : (va.all fun p => (valueAt vb p.1).isSome && true) = true := List.all_eq_true.mpr fun p hp => by
            rw [Bool.and_true]
            exact valueAt_has (by rw [← hk]; exact List.mem_map.mpr ⟨p, hp, rfl⟩)
          rw [ha, hl, beq_self_eq_true, Bool.and_self] at t
          simp only [PyData.depth]
          exact t
theorem Dq.trees (I : Inv X pins σ H s) : ∀ (ds : List PyData) (xs ys : List V) (us ws : List Value), DqAll X.K H xs ds → DqAll X.K H ys ds → Vals xs us → Vals ys ws →
    ∀ j (h1 : j < us.toArray.size) (h2 : j < ws.toArray.size), Tr X s (PyData.depthAll ds) us.toArray[j] ws.toArray[j]
  | [], _, _, _, _, h, h', r, r' => by
    cases h; cases h'; cases r; cases r'
    intro j h1
    exact absurd h1 (by simp)
  | d :: ds, _, _, _, _, h, h', r, r' => by
    cases h with
    | cons a b => cases h' with
      | cons a' b' => cases r with
        | cons r1 r2 => cases r' with
          | cons r1' r2' =>
            intro j h1 h2
            simp only [PyData.depthAll]
            cases j with
            | zero => exact tr_mono (Nat.le_max_left _ _) (Dq.tree I d _ _ _ _ a a' r1 r1')
            | succ j =>
              have t := Dq.trees I ds _ _ _ _ b b' r2 r2' j (by simpa using h1) (by simpa using h2)
              exact tr_mono (Nat.le_max_right _ _) (by simpa using t)
theorem Dq.treeKv (I : Inv X pins σ H s) : ∀ (es : List (PyData × PyData)) (ks ls : List (Key × V)) (va vb : List (Key × Value)), DqKv X.K H ks es → DqKv X.K H ls es →
    KV ks va → KV ls vb → (va.map (·.1)).Nodup → va.map (·.1) = vb.map (·.1) → ∀ k v y, (k, v) ∈ va → valueAt vb k = some y → Tr X s (PyData.depthKv es) v y
  | [], _, _, _, _, h, h', r, r', _, _ => by
    cases h; cases r
    intro k v y hm
    cases hm
  | (kd, d) :: es, _, _, _, _, h, h', r, r', nd, hk => by
    cases h with
    | cons a b =>
      rename_i k0 v0 ks0
      generalize hE : ((keyD k0, d) :: es) = E at h'
      cases h' with
      | nil => cases hE
      | cons a' b' =>
        injection hE with e1 e2
        injection e1 with e3 e4
        subst e2
        subst e4
        have ek := keyD_inj e3
        subst ek
        cases r with
        | cons r1 r2 => cases r' with
          | cons r1' r2' =>
            rename_i p va p' vb
            obtain ⟨p1, p2⟩ := p
            obtain ⟨q1, q2⟩ := p'
            obtain ⟨f1, f2⟩ := r1
            obtain ⟨g1, g2⟩ := r1'
            have f1' : k0 = p1 := f1
            have g1' : k0 = q1 := g1
            subst f1'
            subst g1'
            intro k v y hm hv
            simp only [PyData.depthKv]
            have nd' := List.nodup_cons.mp (show (k0 :: va.map (·.1)).Nodup from nd)
            have hk' : va.map (·.1) = vb.map (·.1) := (List.cons.inj (show k0 :: va.map (·.1) = k0 :: vb.map (·.1) from hk)).2
            rcases List.mem_cons.mp hm with e | hm
            · cases e
              have hy : y = q2 := by
                have : valueAt ((k0, q2) :: vb) k0 = some q2 := by simp [valueAt]
                rw [this] at hv
                exact (Option.some.inj hv).symm
              subst hy
              exact tr_mono (by omega) (Dq.tree I d _ _ _ _ a a' f2 g2)
            · have hne : k0 ≠ k := fun e => nd'.1 (by rw [e]; exact List.mem_map.mpr ⟨(k, v), hm, rfl⟩)
              have hv' : valueAt vb k = some y := by
                have : valueAt ((k0, q2) :: vb) k = valueAt vb k := by simp [valueAt, hne]
                rw [this] at hv
                exact hv
              exact tr_mono (Nat.le_max_right _ _) (Dq.treeKv I es _ _ va vb b b' r2 r2' nd'.2 hk' k v y hm hv')
end
end
section
variable {X : Cx}
def rEqQ (K : PySem.W.Frag) : R2 := fun x y H Q => ∃ d, Dq K H x d ∧ Dq K H y d ∧ d.depth ≤ 50 ∧ Q (.bl true) H
theorem op_eqQ (hu : X.A.units + 64 < cLine) : OpR X (compareOp .Eq) (rEqQ X.K) := by
  intro pins s σ H x y v u Q I rx ry h
  obtain ⟨d, hd, he, hn, q⟩ := h
  cases d with
  | none =>
    cases hd; cases he
    exact op_eq pins s σ H _ _ v u Q I rx ry ⟨rfl, by simpa using q⟩
  | bool b =>
    cases hd; cases he
    exact op_eq pins s σ H _ _ v u Q I rx ry ⟨rfl, by simpa using q⟩
  | int i =>
    cases hd; cases he
    exact op_eq pins s σ H _ _ v u Q I rx ry ⟨rfl, by simpa using q⟩
  | str z =>
    cases hd; cases he
    exact op_eq pins s σ H _ _ v u Q I rx ry ⟨rfl, by simpa using q⟩
  | list ds =>
    simp only [PyData.depth] at hn
    cases hd with
    | lst h1 h2 => cases he with
      | lst h3 h4 =>
        cases rx; cases ry
        obtain ⟨us, r1, p1, _⟩ := I.list h1
        obtain ⟨ws, r2, p2, _⟩ := I.list h3
        have hsz : us.toArray.size = ws.toArray.size := by
          rw [List.size_toArray, List.size_toArray, ← r1.length, ← r2.length, h2.length, h4.length]
        refine PySem.W.eq_listsT (e := fun _ => true) p1.isList p2.isList hsz (Dq.trees I ds _ _ us ws h2 h4 r1 r2) (by omega) ?_
        rw [all_true]
        exact ⟨.bl true, H, I, rfl, q⟩
  | tuple ds =>
    simp only [PyData.depth] at hn
    cases hd with
    | tup h1 h2 => cases he with
      | tup h3 h4 =>
        cases rx; cases ry
        obtain ⟨us, r1, p1, _⟩ := I.tuple h1
        obtain ⟨ws, r2, p2, _⟩ := I.tuple h3
        have hsz : us.toArray.size = ws.toArray.size := by
          rw [List.size_toArray, List.size_toArray, ← r1.length, ← r2.length, h2.length, h4.length]
        refine PySem.W.eq_tuplesT (e := fun _ => true) p1 p2 (Dq.trees I ds _ _ us ws h2 h4 r1 r2) (by omega) ?_
        rw [all_true, hsz, beq_self_eq_true, Bool.and_self]
        exact ⟨.bl true, H, I, rfl, q⟩
  | dict es =>
    simp only [PyData.depth] at hn
    cases hd with
    | dic h1 h2 => cases he with
      | dic h3 h4 =>
        cases rx; cases ry
        obtain ⟨_, ya, va, ra, da⟩ := dk_of I.hok h1
        obtain ⟨_, yb, vb, rb, db⟩ := dk_of I.hok h3
        have hk : va.map (·.1) = vb.map (·.1) := by rw [← kv_keys ra, ← kv_keys rb]; exact h2.keys h4
        have hna : (va.map (·.1)).Nodup := by obtain ⟨_, _, _, _, _, _, _, _, n⟩ := da; exact n
        refine PySem.W.eq_dictsT (e := fun _ => true) ya yb da db (Dq.treeKv I es _ _ va vb h2 h4 ra rb hna hk) (by omega) ?_
        have hl : va.length = vb.length := by have := congrArg List.length hk; simpa using this
        have ha : (va.all fun p => (valueAt vb p.1).isSome && true) = true := List.all_eq_true.mpr fun p hp => by
          rw [Bool.and_true]
          exact valueAt_has (by rw [← hk]; exact List.mem_map.mpr ⟨p, hp, rfl⟩)
        rw [ha, hl, beq_self_eq_true, Bool.and_self]
        exact ⟨.bl true, H, I, rfl, q⟩

/-! ### repr of data -/
def rRepr (K : PySem.W.Frag) : List V → Hp → VK → Prop := fun vs H Q => ∃ x d, vs = [x] ∧ Dq K H x d ∧ d.showable = true ∧
  d.shown.length ≤ sizeLine ∧ d.depth ≤ 50 ∧ Q (.str d.shown) H
theorem call_reprQ (hu : X.A.units + 64 < cLine) (hg : X.A.guards = some []) : CallR X (.builtin "repr") (rRepr X.K) := by
  intro pins s σ H vs us Q I r h
  obtain ⟨x, d, rfl, hd, hs, hz, hn, q⟩ := h
  obtain ⟨u, rfl, ru⟩ := vals1 r
  have fin : ∀ (h' : Heap) (t : Tok) (tk : Nat), (∀ b o, s.heap.get? b = some o → h'.get? b = some o) →
      EP X pins σ Q (.str d.shown t) { s with heap := h', toks := tk } := fun h' t tk k => ⟨.str d.shown, H, I.kept k, ⟨_, rfl⟩, q⟩
  cases d with
  | none =>
    cases hd; cases ru
    refine PySem.P.repr_of_none ?_
    have := fin s.heap s.toks (s.toks + 1) fun _ _ e => e
    simpa only [PyData.shown] using this
  | bool b =>
    cases hd; cases ru
    refine PySem.P.repr_of_bool ?_
    have := fin s.heap s.toks (s.toks + 1) fun _ _ e => e
    simpa only [PyData.shown] using this
  | int i =>
    cases hd
    obtain ⟨t, rfl⟩ := ru
    refine PySem.P.repr_of_int (by simpa [PyData.showable] using hs) ?_
    have := fin s.heap s.toks (s.toks + 1) fun _ _ e => e
    simpa only [PyData.shown] using this
  | str z =>
    cases hd
    obtain ⟨t, rfl⟩ := ru
    refine PySem.P.repr_of_str ?_ (by simpa only [PyData.shown] using hz)
    have := fin s.heap s.toks (s.toks + 1) fun _ _ e => e
    simpa only [PyData.shown] using this
  | list ds =>
    simp only [PyData.depth] at hn
    simp only [PyData.shown] at fin hz
    cases hd with
    | lst h1 h2 =>
      rename_i a xs
      cases ru
      obtain ⟨its, rv, ⟨o, n, ho, hc, _, hdd⟩, _⟩ := I.list h1
      obtain ⟨as, bs, q1, q2, q3⟩ := Dq.readsAll I ds _ its h2 rv (by simpa [PyData.showable] using hs)
        (fun t ht => Nat.le_trans (listText_mem_le ht) hz)
      have rr : Reads s.heap (.ref a) (.list ds) _ := .list ho hc hdd (by simpa using q1)
      have hna : a ∉ bs := not_mem_of_deeper rr (by simp only [PyData.depth]; omega) q2
      refine call_repr_slot (by omega) ⟨o, ho, hc⟩ PySem.F.slot_list_repr.toG ?_
      cases its with
      | nil =>
        cases rv; cases h2
        refine call_list_repr_empty ⟨o, ho, hc⟩ ho hdd ⟨_, _, rfl, ?_⟩
        have := fin s.heap s.toks (s.toks + 1) fun _ _ e => e
        simp only [PyData.shownAll] at this
        rw [listText_nil] at this
        exact this
      | cons y l =>
        exact call_list_reprK ho hc hdd hna (by simpa using q3.length_eq) (fun i y e => q3.item i y (by simpa using e)) (A := X.A.in1) hg
          (fun b _ => Clear.nil b) (by show X.A.units + 1 + (PyData.depthAll ds + 1) < cLine; omega) (fun _ _ e => e) (fun h' u tk k => ⟨_, _, rfl, fin h' u tk k⟩) hz
  | tuple ds =>
    simp only [PyData.depth] at hn
    simp only [PyData.shown] at fin hz
    cases hd with
    | tup h1 h2 =>
      rename_i a xs
      cases ru
      obtain ⟨its, rv, ⟨o, ho, hc, n, hdd⟩, _⟩ := I.tuple h1
      obtain ⟨as, bs, q1, q2, q3⟩ := Dq.readsAll I ds _ its h2 rv (by simpa [PyData.showable] using hs)
        (fun t ht => Nat.le_trans (tupleText_mem_le ht) hz)
      have rr : Reads s.heap (.ref a) (.tuple ds) _ := .tuple ho hc hdd (by simpa using q1)
      have hna : a ∉ bs := not_mem_of_deeper rr (by simp only [PyData.depth]; omega) q2
      refine call_repr_slot (by omega) ⟨o, ho, hc⟩ PySem.F.slot_tuple_repr ?_
      exact call_tuple_reprK ho hc hdd hna (by simpa using q3) (A := X.A.in1) hg
        (fun b _ => Clear.nil b) (by show X.A.units + 1 + (PyData.depthAll ds + 1) < cLine; omega) (fun _ _ e => e) (fun h' u tk k => ⟨_, _, rfl, fin h' u tk k⟩) hz
  | dict es =>
    simp only [PyData.depth] at hn
    simp only [PyData.shown] at fin hz
    cases hd with
    | dic h1 h2 =>
      rename_i a kvs
      cases ru
      obtain ⟨_, hsys, vs, rel, o, ents, ep, ho, hx, hdd, _, hp, _⟩ := dk_of I.hok h1
      obtain ⟨as, bs, bs2, k1, v1, r1, e1⟩ := Dq.readsKv I es kvs vs ents.toList h2 rel hp (by simpa [PyData.showable] using hs)
        (fun t ht => Nat.le_trans (dictText_mem_le ht) hz)
      have rr : Reads s.heap (.ref a) (.dict es) _ := .dict ho hx.1 hdd k1 v1
      have hna : a ∉ bs := not_mem_of_deeper rr (by simp only [PyData.depth]; omega) r1
      refine call_repr_slot (by omega) ⟨o, ho, hx.1⟩ PySem.F.slot_dict_repr ?_
      exact call_dict_reprK ho hx.1 hdd hsys hna e1 (A := X.A.in1) hg
        (fun b _ => Clear.nil b) (by show X.A.units + 1 + (PyData.depthKv es + 1) < cLine; omega) (fun _ _ e => e) (fun h' u tk k => ⟨_, _, rfl, fin h' u tk k⟩) hz
end
end CB
set_option Elab.async false
set_option linter.all false
set_option maxRecDepth 100000
set_option maxHeartbeats 4000000
namespace CB
open PySem PySem.Spec
open PyProof.Rows L2

/-! ### xs[i] read for an operator's store -/
def rGetL (K : PySem.W.Frag) : V → V → Hp → VK → Prop := fun o i H Q => ∃ p xs k z, o = .ref p ∧ i = .int k ∧ SqL K H p xs ∧ 0 ≤ k ∧
  xs[k.toNat]? = some z ∧ Q z H
theorem get_list {X : Cx} : PGet X (rGetL X.K) := by
  intro pins s σ H o i ov iv Q I ro ri h
  obtain ⟨p, xs, k, z, rfl, rfl, hs, h0, hz, q⟩ := h
  cases ro
  obtain ⟨t, rfl⟩ := ri
  obtain ⟨its, rv, pl, hl⟩ := I.list hs
  obtain ⟨u, eu, ru⟩ := rv.get hz
  have hlt : k.toNat < xs.length := (List.getElem?_eq_some_iff.mp hz).1
  have hn := line63
  refine wpAny_getItem_list pl.isList h0 (by omega) (by simpa using eu) ?_
  exact ⟨z, H, I, ru, q⟩

/-! ### o.f as one of several targets -/
def gSl (K : PySem.W.Frag) (ta : TE) (f : Str) : TG := fun y σ H Q => ta σ H fun x H2 => ∃ a C dx p vs i, x = .ref a ∧ SlX.Slt H2 a C dx vs ∧
  SlX.SCls K C ∧ SlX.Slot1 K C f p i ∧ Q σ (SlX.slH H2 a C dx (SlX.putS i y vs))
theorem pg_sl {X : Cx} {o : Expr} {f : Str} {pos : Pos} {ta : TE} (ha : PE X o ta) : PG X (.Attribute o f pos) (gSl X.K ta f) := by
  refine ⟨?_⟩
  intro pins s σ H v u Q I r h
  rw [assign_Attribute]
  refine wpAny_bind (wpAny_holding (thn (ha.run pins s σ H _ I h) ?_))
  rintro ov s1 ⟨x, H1, I1, rx, a, C, dx, p, vs, i, rfl, hsl, c, t, q⟩
  cases rx
  refine wpAny_bind (wpAny_standAt (wpAny_bind (wpAny_holding ?_)))
  exact SlX.setslot_ok I1 hsl c t r fun s2 I2 => wpAny_release ⟨σ, _, I2, q⟩

/-! ### x in t, t a tuple of data -/
def rInT (K : PySem.W.Frag) (g : Bool → Bool) : R2 := fun x y H Q => ∃ d ds, Dp K H x d ∧ Dp K H y (.tuple ds) ∧ SeqAt.shaped d = true ∧
  SeqAt.shaped (.tuple ds) = true ∧ Q (.bl (g (ds.any fun z => PyData.eqv z d))) H
section
variable {X : Cx}
theorem op_inT (hu : X.A.units + 65 < cLine) : OpR X (compareOp .In) (rInT X.K fun b => b) := by
  intro pins s σ H x y v u Q I rx ry h
  obtain ⟨d, ds, hd, he, sd, se, q⟩ := h
  obtain ⟨as, r1⟩ := Dp.reads I d x v hd rx
  obtain ⟨bs, r2⟩ := Dp.reads I (.tuple ds) y u he ry
  have hc : PyData.canLayAll0 ds = true := by
    have := SeqAt.canLay_of_shaped se
    simpa only [PyData.canLay0] using this
  refine SeqAt.in_tuple_reads r2 r1 hc (SeqAt.canLay_of_shaped sd) (room_in_shaped sd hu) ?_
  exact ⟨.bl _, H, I, rfl, q⟩
theorem op_notInT (hu : X.A.units + 65 < cLine) : OpR X (compareOp .NotIn) (rInT X.K fun b => !b) := by
  intro pins s σ H x y v u Q I rx ry h
  obtain ⟨d, ds, hd, he, sd, se, q⟩ := h
  obtain ⟨as, r1⟩ := Dp.reads I d x v hd rx
  obtain ⟨bs, r2⟩ := Dp.reads I (.tuple ds) y u he ry
  have hc : PyData.canLayAll0 ds = true := by
    have := SeqAt.canLay_of_shaped se
    simpa only [PyData.canLay0] using this
  refine SeqAt.notIn_tuple_reads r2 r1 hc (SeqAt.canLay_of_shaped sd) (room_in_shaped sd hu) ?_
  exact ⟨.bl _, H, I, rfl, q⟩
/-- a < b of alike data -/
def rLtD (K : PySem.W.Frag) : R2 := fun x y H Q => ∃ d e, Dp K H x d ∧ Dp K H y e ∧ PySem.W.alike d e = true ∧ d ≠ .none ∧ d.depth ≤ 50 ∧
  Q (.bl (PySem.W.dataLt d e)) H
theorem op_ltD (hu : X.A.units + 64 < cLine) : OpR X (compareOp .Lt) (rLtD X.K) := by
  intro pins s σ H x y v u Q I rx ry h
  obtain ⟨d, e, hd, he, ha, hn, hz, q⟩ := h
  obtain ⟨as, r1⟩ := Dp.reads I d x v hd rx
  obtain ⟨bs, r2⟩ := Dp.reads I e y u he ry
  refine PySem.W.rcLt_alike d e X.A s v u as bs r1 r2 ha hn ?_ X.prog X.w _ _ ?_
  · have := Nat.min_le_left d.depth e.depth
    omega
  · exact ⟨.bl _, H, I, rfl, q⟩

/-! ### xs.remove(x), x there -/
def rRemD (K : PySem.W.Frag) : V → List V → Hp → VK → Prop := fun x vs H Q => ∃ (l : Addr) (xs : List V) (y : V) (d : PyData) (ds : List PyData) (j : Nat) (z : PyData),
  x = .ref l ∧ vs = [y] ∧ H l = some (.lst xs) ∧ DpAll K H xs ds ∧ Dp K H y d ∧ SeqAt.shaped (.list ds) = true ∧ SeqAt.shaped d = true ∧
  ds[j]? = some z ∧ PyData.eqv z d = true ∧ (∀ m z', m < j → ds[m]? = some z' → PyData.eqv z' d = false) ∧ Q .non (upd H l (.lst (xs.eraseIdx j)))
theorem mt_removeD (hu : X.A.units + 65 < cLine) : MtM X "list.remove" (rRemD X.K) := by
  intro pins s σ H x vs v us Q I rx rv h
  obtain ⟨l, xs, y, d, ds, j, z, rfl, rfl, hH, hall, hd, sl, sd, hz, hzd, hno, q⟩ := h
  cases rx
  obtain ⟨u, rfl, ru⟩ := rv.one
  obtain ⟨bs, r1⟩ := Dp.reads I d y u hd ru
  obtain ⟨zl, its, n, r, hl, e0⟩ := I.lstM hH
  obtain ⟨as, h4⟩ := Dp.readsAll I ds xs its hall r
  have hxs : PyData.canLayAll0 ds = true := by
    have := SeqAt.canLay_of_shaped sl
    simpa only [PyData.canLay0] using this
  have hmap : its.map (SeqAt.readOf s.heap) = ds := SeqAt.readsAll_map ds its as hxs h4
  have hlen : its.length = ds.length := SeqAt.ReadsAll.length ds its as h4
  have hjd : j < ds.length := (List.getElem?_eq_some_iff.mp hz).1
  have at_ : ∀ (m : Nat) (hm : m < its.toArray.size) (z' : PyData), ds[m]? = some z' → SeqAt.readOf s.heap its.toArray[m] = z' := by
    intro m hm z' hz'
    have hml : m < its.length := by simpa using hm
    rw [← hmap, List.getElem?_map, List.getElem?_eq_getElem hml] at hz'
    simpa using hz'
  have hj : j < its.toArray.size := by rw [List.size_toArray]; omega
  refine call_meets PySem.F.slot_list_remove ⟨_, e0, rfl⟩ PySem.F.entry_list_remove (PySem.F.args_list_remove_2 _ _)
    (SeqAt.list_removeAt l its.toArray n none #[] u (fun y => PyData.eqv (SeqAt.readOf s.heap y) d) j hj ?_ ?_ (by rw [List.size_toArray, ← hl]; exact zl)) ⟨e0, ?_, ?_⟩
  · show PyData.eqv (SeqAt.readOf s.heap its.toArray[j]) d = true
    rw [at_ j hj z hz]
    exact hzd
  · intro m hm hmj
    have hmd : m < ds.length := by omega
    have e1 : ds[m]? = some ds[m] := List.getElem?_eq_getElem hmd
    show PyData.eqv (SeqAt.readOf s.heap its.toArray[m]) d = false
    rw [at_ m hm _ e1]
    exact hno m _ hmj e1
  · exact SeqAt.items_eqAt (vs := its.toArray) (show ReadsAll s.heap its.toArray.toList ds as from h4) r1 hxs (SeqAt.canLay_of_shaped sd) (room_in_shaped sd hu)
  · refine ⟨.non, _, I.lset (its' := its.eraseIdx j) hH e0 ?_ (r.eraseIdx j) ?_, rfl, q⟩
    · show its.toArray.eraseIdxIfInBounds j = (its.eraseIdx j).toArray
      rw [List.eraseIdxIfInBounds_toArray]
    · have := List.length_eraseIdx_le xs j
      omega
end

/-! ### enumerate(t), t a tuple -/
theorem meets_enumT (l : Addr) (items : Array Value) (n : Nat) (dct : Option Addr) (sl : Array (Option Value)) :
    Meets (Builtin.«enumerate.__new__» ⟨[.type "enumerate", .ref l], []⟩) (fun _ R s =>
      s.heap.get? l = some { cls := .type "tuple", dict := dct, data := .seq items n, slots := sl } ∧
      R (.ok (.ret (.ref (s.heap.push { cls := .type "tuple_iterator", data := .fields #[.ref l, .int 0 0] }).objs.size)))
        { s with heap := (s.heap.push { cls := .type "tuple_iterator", data := .fields #[.ref l, .int 0 0] }).push { cls := .type "enumerate", data := .fields #[.none, .bool false, .ref s.heap.objs.size, rawInt 0, .none, .none] } }) := by
  refine .of_wp ?_
  intro prog w A R s h
  obtain ⟨hp, g, d, tk, os⟩ := s
  obtain ⟨hl, h⟩ := h
  have hsub := sub_enumerate
  have hL : Heap.IsTuple (Shared.heap ⟨hp, g, d, tk, os⟩) l items := ⟨_, hl, rfl, n, rfl⟩
  wp_walk using AutoSeq1.wpAny_loadPart' hl
  refine wpAny_stack_any fun st => wpAny_pure ?_
  split
  · rename_i c _ _ _ _ _
    cases (c == Value.type "enumerate")
    · wp_walk using AutoSeq1.wpAny_loadPart' hl, wpAny_pyIter_tuple hL
      exact ⟨_, rfl, h⟩
    · wp_walk using AutoSeq1.wpAny_loadPart' hl, wpAny_pyIter_tuple hL
      exact ⟨_, rfl, h⟩
  · wp_walk using AutoSeq1.wpAny_loadPart' hl, wpAny_pyIter_tuple hL
    exact ⟨_, rfl, h⟩
section
variable {prog : Program} {w : World} {A : Around} {E : Value → Shared → Prop} {s : Shared}
theorem call_enumT {l : Addr} {items : Array Value} {Q : Value → Shared → Prop} (hL : s.heap.IsTuple l items)
    (h : ∀ h', IsEnum h' (s.heap.objs.size + 1) s.heap.objs.size 0 .none → h'.IsTupleIter s.heap.objs.size l 0 → h'.objs.size = s.heap.objs.size + 2 →
      (∀ b o, s.heap.get? b = some o → h'.get? b = some o) → Q (.ref (s.heap.objs.size + 1)) { s with heap := h' }) :
    wpAny (model prog w) A (call (.type "enumerate") [.ref l]) Q E s := by
  obtain ⟨⟨c, dct, dt, sl⟩, hl, hc, n, hd⟩ := hL
  obtain rfl : c = .type "tuple" := hc
  obtain rfl : dt = .seq items n := hd
  refine callType_new PySem.F.called_enumerate (by decide) (PySem.F.typeCall_enumerate_1 _) (PySem.F.newCall_enumerate_1 _)
    (fun obj => PySem.F.args_object_init_2 obj _) PySem.F.entry_enumerate_new (meets_enumT l items n dct sl) ⟨hl, ?_⟩
  have hz : (s.heap.push { cls := .type "tuple_iterator", data := .fields #[.ref l, .int 0 0] }).objs.size = s.heap.objs.size + 1 := Heap.size_push ..
  show _ ∧ _
  rw [hz]
  have he : IsEnum ((s.heap.push { cls := .type "tuple_iterator", data := .fields #[.ref l, .int 0 0] }).push
      { cls := .type "enumerate", data := .fields #[.none, .bool false, .ref s.heap.objs.size, rawInt 0, .none, .none] }) (s.heap.objs.size + 1) s.heap.objs.size 0 .none := by
    have q := Heap.get?_push_size (s.heap.push { cls := .type "tuple_iterator", data := .fields #[.ref l, .int 0 0] })
      (o := { cls := .type "enumerate", data := .fields #[.none, .bool false, .ref s.heap.objs.size, rawInt 0, .none, .none] }) rfl
    rw [hz] at q
    exact q
  refine ⟨⟨_, he, rfl⟩, h _ he ⟨_, Heap.get?_push_of_some _ (Heap.get?_push_size _ rfl), rfl, rfl⟩ (by rw [Heap.size_push, hz]) ?_⟩
  exact fun b o y => Heap.get?_push_of_some _ (Heap.get?_push_of_some _ y)
end
def ItT (K : PySem.W.Frag) (a : Addr) : It where
  go := fun i H => ∃ (xs : List V) (x : V), SqT K H a xs ∧ xs[i]? = some x
  yld := fun i H v H' => ∃ T x, v = .ref T ∧ H T = none ∧ H' = upd H T (.tup [.int (i : Nat), x]) ∧ ∀ xs, SqT K H a xs → xs[i]? = some x
  stop := fun i H => ∃ xs : List V, SqT K H a xs ∧ xs.length ≤ i
theorem walk_enumT {K : PySem.W.Frag} {a : Addr} {xs : List V} : Walk (ItT K a) xs.length (fun H => SqT K H a xs) (YPair (fun i => some (.int (i : Nat))) (fun i => xs[i]?)) := by
  refine ⟨?_, ?_, ?_⟩
  · intro i _ hi q
    exact ⟨xs, xs[i], q, by simp [hi]⟩
  · intro _ q
    exact ⟨xs, q, Nat.le_refl _⟩
  · rintro i H v H' _ q ⟨T, x, h1, h2, h3, h4⟩
    exact ⟨T, .int (i : Nat), x, h1, h2, h3, rfl, h4 xs q⟩
theorem tup_ne_it {s : Shared} {a it : Addr} {n : Nat} {its : Array Value} (h1 : s.heap.IsTuple a its) (h2 : s.heap.IsTupleIter it a n) : a ≠ it := by
  intro e
  subst e
  obtain ⟨o, ho, hc, _⟩ := h1
  obtain ⟨o', ho', hc', _⟩ := h2
  rw [ho] at ho'
  cases ho'
  rw [hc] at hc'
  exact absurd hc' (by decide)
theorem turn_enumT {P : Program} {w : World} {K : PySem.W.Frag} {elts : List Expr} {kk : Nat} {tpos : Pos} (a e it : Addr) :
    Turn P w K (.Tuple elts kk tpos) (ItT K a) [e, it] e (fun i h => (∃ old, IsEnum h e it ((i : Nat) : Int) old) ∧ h.IsTupleIter it a i ∧ e ≠ it) where
  mem := by simp
  obj := by
    rintro i h ⟨⟨old, he⟩, ⟨o, ho, hc, hd⟩, _⟩ b hb
    rcases (show b = e ∨ b = it by simpa using hb) with z | z
    · rw [z]; exact ⟨_, he, fun v q => nomatch q⟩
    · rw [z]; exact ⟨o, ho, fun v q => by rw [hd] at q; cases q⟩
  keep := by
    rintro i h h' ⟨⟨old, he⟩, hi, hne⟩ k
    exact ⟨⟨old, k e (by simp) _ he⟩, hi.at fun o q => k it (by simp) o q, hne⟩
  item := by
    intro X hP hw hK hc i pins s σ H E I hf st hg
    subst hP hw hK
    obtain ⟨⟨old, he⟩, hit, hne⟩ := st
    obtain ⟨xs, x, hq, hx⟩ := hg
    obtain ⟨its, rv, p, hz⟩ := I.tuple hq
    obtain ⟨u, hu, ru⟩ := rv.get hx
    have hel : e < s.heap.objs.size := Heap.lt_size he
    have hil : it < s.heap.objs.size := by obtain ⟨_, q, _⟩ := hit; exact Heap.lt_size q
    have hil' : i < its.toArray.size := by
      have := (List.getElem?_eq_some_iff.mp hu).1
      simpa using this
    have D := Draws.tuple (prog := X.prog) (w := X.w) (A := X.A.in1) (I.ok.hd hc) it a (tup_ne_it p hit) its.toArray
    have nea : e ≠ a := by
      intro z
      obtain ⟨o, ho, hc, _⟩ := p
      have he' : s.heap.get? e = _ := he
      rw [z, ho] at he'
      cases he'
      exact absurd (show Value.type "enumerate" = Value.type "tuple" from hc) (by decide)
    refine wpAny_pyNext_enum_itemD D he ⟨hit, p⟩ hil' hne (by simp [hne, nea]) ?_
    intro v h' tk hv ho hst hT hsz hk
    obtain ⟨hit', p'⟩ := hst
    have ev : v = u := by
      have : its.toArray[i]? = some u := by simpa using hu
      exact Option.some.inj (hv.symm.trans this)
    subst ev
    refine ⟨_, rfl, wpAny_letOwnedTupleGo_enum (s := { s with heap := h', toks := tk + 1 }) ho ?_⟩
    intro h'' he' sb
    have hT2 : h''.get? s.heap.objs.size = some { cls := .type "tuple", data := .seq #[.int i tk, v] } := (sb.2 _ (Nat.ne_of_gt hel)).trans hT
    have new : ObjOk X.prog X.w (upd H s.heap.objs.size (.tup [.int (i : Nat), x])) h'' s.heap.objs.size (.tup [.int (i : Nat), x]) :=
      ⟨by show 2 ≤ sizeLine; decide, [.int i tk, v], .cons ⟨_, rfl⟩ (.cons ru .nil), ⟨_, hT2, rfl, _, rfl⟩⟩
    have I1 : Inv X pins σ (upd H s.heap.objs.size (.tup [.int (i : Nat), x])) { s with heap := h'', toks := tk + 1 } :=
      I.turnedNew (ch := [e, it]) (fun b ob hb q => (sb.2 b (fun z => hb (by simp [z]))).trans
        (hk b ob (fun z => hb (by simp [z])) (fun z => hb (by simp [z])) q)) hf (Nat.le_refl _) new
    refine ⟨.ref s.heap.objs.size, _, I1, rfl, ⟨_, x, rfl, I.hok.fresh (Nat.le_refl _), rfl, fun ys hy => by rw [I.tuple_inj hy hq]; exact hx⟩,
      ⟨⟨v, ?_⟩, hit'.at fun o q => (sb.2 it (Ne.symm hne)).trans q, hne⟩, ?_⟩
    · have e1 : ((i + 1 : Nat) : Int) = (i : Int) + 1 := by omega
      rw [e1]; exact he'
    · intro b hb
      have hb' : b < s.heap.objs.size := by
        rcases (show b = e ∨ b = it by simpa using hb) with z | z
        · rw [z]; exact hel
        · rw [z]; exact hil
      rw [upd_ne (Nat.ne_of_lt hb')]
      exact (hf b hb).1
  done := by
    intro X hP hw hK hc i pins s σ H E I hf st hg
    subst hP hw hK
    obtain ⟨⟨old, he⟩, hit, hne⟩ := st
    obtain ⟨xs, hq, hx⟩ := hg
    obtain ⟨its, rv, p, hz⟩ := I.tuple hq
    obtain ⟨f0, f1, f2, f3, f4, f5⟩ := hf it (by simp)
    have D := Draws.tuple (prog := X.prog) (w := X.w) (A := X.A.in1) (I.ok.hd hc) it a (tup_ne_it p hit) its.toArray
    have hl := rv.length
    have hT : s.TypeIs (.ref e) "enumerate" := ⟨_, he, rfl⟩
    unfold pyNext
    refine wpAny_bind (wpAny_attempt (wpAny_callSpecial?_slot (name := Str.ofString "__next__") hT PySem.F.slot_enumerate_next
      (wpAny_call_entry PySem.F.slot_enumerate_next hT PySem.F.entry_enumerate_next ?_ (PySem.F.args_enumerate_next_1 _))))
    show wpAny _ _ (field (.ref e) 2 >>= _) _ _ _
    refine wpAny_bind (wpAny_field he rfl (x := .ref it) rfl ?_)
    refine wpAny_bind (wpAny_nextOf_tuple_end (I.ok.hd hc) hit p (by simp; omega) ?_)
    intro h' x he' hx'
    obtain ⟨o, ho, hc'⟩ := hx'
    refine wpAny_bind (wpAny_isInstance (T := "StopIteration") (b := true) ⟨o, ho, hc'⟩ isSubtype_stop ?_)
    refine wpAny_pure ?_
    exact ⟨rfl, I.turned (t' := s.toks) (fun b o hb q => he' b o hb q) f0 f1 f3 f4 f5⟩
  self := by
    rintro A i s Q E ⟨⟨_, he⟩, _⟩ h
    exact wpAny_pyIter_enum he h
def iEnumT (K : PySem.W.Frag) (ta : TA) : TI := fun σ H R => ta σ H fun vs H1 => ∃ a xs, vs = [.ref a] ∧ SqT K H1 a xs ∧ R (ItT K a) H1
theorem pi_enumT {X : Cx} {e : Expr} {ta : TA} {p pos tpos : Pos} {elts : List Expr} {kk : Nat} (hm : X.mg "enumerate" = none)
    (ha : PA X [e] ta) (hg : Gl X "enumerate" := by rfl) (hs : starEach [e] X.env = [(false, eval e X.env)] := by rfl) :
    PI X (.Tuple elts kk tpos) (.Call (.Name "enumerate" p) [e] [] pos) (iEnumT X.K ta) := by
  refine ⟨?_⟩
  intro pins s σ H R I h
  refine Call_ (ld_blt I hg hm boot_enumerate (PyProof.Rows.callWith_type1 (thn (ha.run pos pins s σ H _ I h) ?_) hs rfl))
  rintro us s1 ⟨vs, H1, I1, r1, a, xs, rfl, hq, q⟩
  obtain ⟨u, rfl, ru⟩ := vals1 r1
  cases ru
  obtain ⟨its, rv, p', hz⟩ := I1.tuple hq
  refine call_enumT p' fun h' he hit hsz hk => wpAny_pyIter_enum he ?_
  have I2 : Inv X pins σ H1 { s1 with heap := h' } := I1.kept (t' := s1.toks) hk
  refine ⟨s1.heap.objs.size + 1, [s1.heap.objs.size + 1, s1.heap.objs.size], _, _, H1, rfl, I2,
    turn_enumT a (s1.heap.objs.size + 1) s1.heap.objs.size, ⟨⟨.none, he⟩, hit, Nat.succ_ne_self _⟩, fun b hb => ?_, q⟩
  have hle : s1.heap.objs.size ≤ b := by
    rcases (show b = s1.heap.objs.size + 1 ∨ b = s1.heap.objs.size by simpa using hb) with z | z
    · rw [z]; exact Nat.le_add_right _ _
    · rw [z]; exact Nat.le_refl _
  exact I1.fpOk hle (I1.hok.fresh hle)
end CB
set_option Elab.async false
set_option linter.all false
set_option maxRecDepth 100000
set_option maxHeartbeats 4000000
namespace CB
open PySem PySem.Spec
open PyProof.Rows L2

/-! ### the order of data -/
abbrev dLt (d e : PyData) : Bool := PySem.W.dataLt d e
theorem dLt_irrefl (d : PyData) : dLt d d = false := PyProof.Rows.lex_irrefl _
theorem dLt_trans {a b c : PyData} (h : dLt a b = true) (k : dLt b c = true) : dLt a c = true := PyProof.Rows.lex_trans _ _ _ h k
theorem dLt_neg {a b c : PyData} (h : dLt a c = true) : dLt a b = true ∨ dLt b c = true := PyProof.Rows.lex_negTrans _ _ _ h
theorem dLt_asym {a b : PyData} (h : dLt a b = true) : dLt b a = false := by
  cases e : dLt b a with
  | false => rfl
  | true =>
    have := dLt_trans h e
    rw [dLt_irrefl] at this
    cases this
theorem dLt_swo {α : Type} (f : α → PyData) : SrtO.Swo fun x y => dLt (f x) (f y) := by
  refine ⟨fun x y h => dLt_asym h, fun x y z h1 h2 => ?_⟩
  cases e : dLt (f z) (f x) with
  | false => rfl
  | true =>
    cases dLt_neg (b := f y) e with
    | inl h => rw [h] at h2; cases h2
    | inr h => rw [h] at h1; cases h1

/-! ### two data that the sort can compare -/
/-- tuples whose first items are alike, and whose rests are where these are equal -/
def Ord1 (d e : PyData) : Prop := ∃ x xs y ys, d = .tuple (x :: xs) ∧ e = .tuple (y :: ys) ∧ PySem.W.alike x y = true ∧ x ≠ .none ∧ (∀ t, x ≠ .tuple t) ∧
  (PyData.eqv x y = true → PySem.W.alikeAll xs ys = true)
def SortOk (ds : List PyData) : Prop := (PySem.W.AllAlike ds ∧ PySem.W.Sortable ds) ∨ ∀ d ∈ ds, ∀ e ∈ ds, Ord1 d e
section
variable {prog : Program} {w : World} {A : Around} {E : Value → Shared → Prop} {s : Shared}
theorem each_of {h : Heap} {vs : List Value} {ds : List PyData} {as : List Addr} (r : ReadsAll h vs ds as) : PySem.W.EachIs (fun v d => ∃ as, Reads h v d as) vs ds := by
  have := PySem.W.readsAll_each (fun d : PyData => d) (h := h) (vs := vs) (bs := ds) (as := as) (by simpa using r)
  exact this
theorem ord1_lt {b : Bool} {d e : PyData} {u v : Value} {as bs : List Addr} {Q : Bool → Shared → Prop} (o : Ord1 d e) (ru : Reads s.heap u d as) (rv : Reads s.heap v e bs)
    (hu : A.units + min d.depth e.depth < cLine) (hq : Q (dLt d e) s) : wpAny (model prog w) A (keyLt' (tuples' b) u v) Q (fun _ _ => False) s := by
  obtain ⟨x, xs, y, ys, rfl, rfl, hxy, hn, ht, hrest⟩ := o
  have hq' : Q (dLt (.tuple (x :: xs)) (.tuple (y :: ys))) s := hq
  simp only [dLt, PySem.W.dataLt_tuple] at hq'
  have hd : A.units + min (PyData.depthAll (x :: xs)) (PyData.depthAll (y :: ys)) < cLine := by
    simp only [PyData.depth] at hu
    omega
  cases ru with
  | @tuple l o vs n _ _ h1 h2 h3 h4 =>
    cases rv with
    | @tuple l' o' vs' n' _ _ k1 k2 k3 k4 =>
      have n1 : vs.size = (x :: xs).length := by simpa using SeqAt.ReadsAll.length _ _ _ h4
      have n2 : vs'.size = (y :: ys).length := by simpa using SeqAt.ReadsAll.length _ _ _ k4
      refine PySem.W.kat_lt h1 h3 k1 k3 ?_
      by_cases he : PyData.eqv x y = true
      · refine PySem.W.katLex_alike (x :: xs) (y :: ys) 0 _ _ _ _ h4 k4 ?_ hd ?_ (by rw [n1, n2]) hq'
        · rw [PySem.W.alikeAll, hxy, hrest he]
          rfl
        · intro _ _ x' r t ex
          obtain ⟨rfl, rfl⟩ := List.cons.inj ex
          exact ht t
      · have he' : PyData.eqv x y = false := by simpa using he
        rw [PySem.W.dataLt_all_no hxy he'] at hq'
        generalize hL1 : vs.toList = L1 at h4
        generalize hL2 : vs'.toList = L2 at k4
        cases h4 with
        | cons a1 a2 => cases k4 with
          | cons b1 b2 =>
            rw [List.zip_cons_cons]
            have hd' : A.units + min x.depth y.depth < cLine := by
              simp only [PyData.depthAll] at hd
              omega
            refine PySem.W.kat_cons (PySem.W.eqAt_alike x y A s _ _ _ _ a1 b1 hxy hd' prog w _ _ ?_)
            rw [he']
            exact PySem.W.kat_no (PySem.W.oneLt_alike (fun _ => ht) a1 b1 hxy hn hd' hq')
theorem sortable_data {a : Addr} {vs : List Value} {ds : List PyData} {as : List Addr} (h2 : 2 ≤ vs.length) (r : ReadsAll s.heap vs ds as) (hc : PyData.canLayAll0 ds = true) (ok : SortOk ds)
    (hu : ∀ d ∈ ds, A.units + d.depth < cLine) (ha : s.heap.get? a = some (seqObj "list" vs.toArray 0)) (f : Value → PyData) (hf : vs.map f = ds) (g : Heap)
    (hg : ∀ b o, g.get? b = some o → b ≠ a ∧ s.heap.get? b = some o) (rg : ReadsAll g vs ds as) :
    SrtO.SortableO prog w A s a vs fun v u => dLt (f v) (f u) := by
  intro h' keep
  have kp : ∀ b o, g.get? b = some o → h'.get? b = some o := fun b o e => keep b o (hg b o e).1 (hg b o e).2
  have r' : ReadsAll h' vs ds as := PyProof.Rows.ReadsAll.keeps kp rg
  have ea := each_of r'
  have fe : ∀ v ∈ vs, ∃ d ∈ ds, f v = d ∧ ∃ as, Reads h' v d as := by
    intro v hv
    have e1 : vs.map (SeqAt.readOf h') = ds := SeqAt.readsAll_map ds vs as hc r'
    obtain ⟨i, hi⟩ := List.mem_iff_getElem?.mp hv
    have e2 : ds[i]? = some (f v) := by rw [← hf, List.getElem?_map, hi]; rfl
    obtain ⟨d, hd, as', rr⟩ := ea.left v hv
    have e3 : ds[i]? = some (SeqAt.readOf h' v) := by rw [← e1, List.getElem?_map, hi]; rfl
    have hcd : d.canLay0 = true := by
      clear e1 e2 e3 hi hf ea r' rg r rr
      induction ds with
      | nil => cases hd
      | cons z zs ih =>
        have q : z.canLay0 = true ∧ PyData.canLayAll0 zs = true := by simpa [PyData.canLayAll0] using hc
        rcases List.mem_cons.mp hd with e | hd
        · rw [e]; exact q.1
        · refine ih q.2 ?_ (fun d h => hu d (List.mem_cons_of_mem _ h)) hd
          rcases ok with ⟨o1, o2⟩ | o
          · refine .inl ⟨fun d h e k => o1 d (List.mem_cons_of_mem _ h) e (List.mem_cons_of_mem _ k), ?_⟩
            rcases o2 with o2 | o2
            · exact .inl fun d h => o2 d (List.mem_cons_of_mem _ h)
            · exact .inr fun d h => o2 d (List.mem_cons_of_mem _ h)
          · exact .inr fun d h e k => o d (List.mem_cons_of_mem _ h) e (List.mem_cons_of_mem _ k)
    have e4 : SeqAt.readOf h' v = d := SeqAt.readOf_eq hcd rr
    refine ⟨d, hd, ?_, as', rr⟩
    rw [e2] at e3
    rw [← e4]
    exact Option.some.inj e3
  rcases ok with ⟨hal, hk⟩ | ok
  · obtain ⟨kd, lt, kind⟩ := (PySem.W.SortsAt.data (prog := prog) (w := w) (A := A) (s := { s with heap := h' }) ea hal hk hu).kind
    refine ⟨kd, fun Q E hq => kind h2 E hq, ?_⟩
    intro p q hp hq
    obtain ⟨d, hd, e1, as1, r1⟩ := fe _ hp
    obtain ⟨e, he, e2, as2, r2⟩ := fe _ hq
    refine lt _ _ _ _ _ (PySem.W.dataKind_some hal hd r1) (PySem.W.dataKind_some hal he r2) ⟨rfl, ?_⟩
    show _ = dLt (f p.1) (f q.1)
    rw [e1, e2]
    rfl
  · obtain ⟨v0, hv0⟩ : ∃ v, v ∈ vs := by
      cases vs with
      | nil => simp at h2
      | cons v _ => exact ⟨v, List.mem_cons_self⟩
    obtain ⟨d0, hd0, _⟩ := fe v0 hv0
    obtain ⟨x0, r0, _, _, e0, _, _, hn0, ht0, _⟩ := ok d0 hd0 d0 hd0
    have htup : ∀ d ∈ ds, ∃ x r, d = .tuple (x :: r) := by
      intro d hd
      obtain ⟨x, r, _, _, e, _⟩ := ok d hd d hd
      exact ⟨x, r, e⟩
    have hfirst : ∀ x r, PyData.tuple (x :: r) ∈ ds → PySem.W.alike x x0 = true := by
      intro x r hm
      obtain ⟨x1, r1, x2, r2, e1, e2, hx, _⟩ := ok _ hm d0 hd0
      rw [e0] at e2
      injection e1 with e1
      injection e2 with e2
      injection e1 with e1 _
      injection e2 with e2 _
      rw [e1, e2]
      exact hx
    refine ⟨tuples' (PySem.W.dataType x0 != Value.type "tuple"), ?_, ?_⟩
    · intro Q E hq
      obtain ⟨fs, t1, t2, t3⟩ := PySem.W.each_katTups ea htup
      refine PySem.W.kat_kind (T := PySem.W.dataType x0) t1 (by omega) (fun f hf => ?_) (beq_self_eq_true _) hq
      obtain ⟨x, r, as, m1, m2⟩ := t3 f hf
      rw [← PySem.W.dataType_alike (hfirst x r m1)]
      exact PySem.W.looks_reads m2
    · intro p q hp hq
      obtain ⟨d, hd, e1, as1, r1⟩ := fe _ hp
      obtain ⟨e, he, e2, as2, r2⟩ := fe _ hq
      refine ord1_lt (s := { s with heap := h' }) (ok d hd e he) r1 r2 ?_ ⟨rfl, ?_⟩
      · have := hu d hd
        have := Nat.min_le_left d.depth e.depth
        omega
      · show _ = dLt (f p.1) (f q.1)
        rw [e1, e2]

/-- the items of a list or a tuple, collected into a new list -/
theorem collect_ct {c : Addr} {T : String} {o : Obj} {vs : List Value} {n : Nat} {Q : List Value → Shared → Prop} (hT : T = "list" ∨ T = "tuple")
    (ho : s.heap.get? c = some o) (hc : o.cls = .type T) (hd : o.data = .seq vs.toArray n) (hz : vs.length ≤ sizeLine)
    (h : Q vs { s with heap := (s.heap.push (seqObj "list" #[] 0)).update s.heap.objs.size (Obj.mapSeq (· ++ vs.toArray)) }) :
    wpAny (model prog w) A (collect (.ref c)) Q E s := by
  unfold collect
  refine wpAny_bind (wpAny_runValue (codeAny_builtin entry_proto_collect' ?_))
  show wpAny _ _ (do again (.builtin "list.__iadd__" ⟨[← newList [], .ref c], []⟩)) _ _ s
  refine wpAny_bind (wpAny_newList (wpAny_pure ⟨Code.quiet_builtin _ (by decide +kernel), codeAny_builtin entry_list_iadd' ?_⟩))
  show wpAny _ _ (Builtin.List.listExtendWith (.ref s.heap.objs.size) (.ref c) (.ref s.heap.objs.size)) _ _
    { s with heap := s.heap.push (seqObj "list" #[] 0) }
  have hp : (s.heap.push (seqObj "list" #[] 0)).get? s.heap.objs.size = some (seqObj "list" #[] 0) := Heap.get?_push_size _ rfl
  have hc' : (s.heap.push (seqObj "list" #[] 0)).get? c = some o := Heap.get?_push_of_some _ ho
  unfold Builtin.List.listExtendWith
  refine wpAny_bind (wpAny_typeOf (T := T) ⟨o, hc', hc⟩ ?_)
  have cond : (Builtin.List.listSameRef (.ref s.heap.objs.size) (.ref c) || Value.type T == Value.type "list" || Value.type T == Value.type "tuple") = true := by
    rcases hT with rfl | rfl <;> simp
  simp only [cond, if_true]
  refine wpAny_bind (listItems_at hc' hd ?_)
  refine wpAny_bind (listItems_at hp rfl ?_)
  rw [if_neg (by simp)]
  refine wpAny_bind (listUpdate_at hp rfl ?_ (Nat.zero_le _) ?_)
  · refine wpAny_pure ?_
    show wpAny (model prog w) A (do
        let o ← load s.heap.objs.size
        match o.data with
        | .seq xs _ => pure xs.toList
        | _ => unsupported "internal:collect") Q E { s with heap := (s.heap.push (seqObj "list" #[] 0)).update s.heap.objs.size (Obj.mapSeq (· ++ vs.toArray)) }
    refine wpAny_bind (wpAny_load (get?_update_seq hp _) ?_)
    show wpAny _ _ (pure ((#[] : Array Value) ++ vs.toArray).toList) Q E _
    have e : ((#[] : Array Value) ++ vs.toArray).toList = vs := by simp
    rw [e]
    exact wpAny_pure h
  · show (#[] ++ vs.toArray).size ≤ sizeLine + 1
    simp only [Array.size_append, List.size_toArray, List.length_nil]
    omega
/-- sorted(c), c a list or a tuple -/
theorem sorted_seq {c : Addr} {T : String} {o : Obj} {vs : List Value} {n : Nat} {ltv : Value → Value → Bool} {Q : Value → Shared → Prop} (hT : T = "list" ∨ T = "tuple")
    (ho : s.heap.get? c = some o) (hc : o.cls = .type T) (hd : o.data = .seq vs.toArray n) (hz : vs.length ≤ sizeLine) (O : SrtO.Swo ltv)
    (hS : 2 ≤ vs.length → ∀ (h1 : Heap) (a : Addr), h1.get? a = some (seqObj "list" vs.toArray 0) → (∀ b o, s.heap.get? b = some o → b ≠ a ∧ h1.get? b = some o) →
      SrtO.SortableO prog w A.in1.in1 { s with heap := h1 } a vs ltv)
    (h : ∀ (out : List Value) (h' : Heap) (p : Addr), SrtO.Srtd ltv out → SrtO.Stb ltv out vs → s.heap.objs.size ≤ p → (∀ b o, s.heap.get? b = some o → h'.get? b = some o) →
      (∃ m, h'.get? p = some (seqObj "list" out.toArray m)) → Q (.ref p) { s with heap := h' }) :
    wpAny (model prog w) A (call (.builtin "sorted") [.ref c]) Q E s := by
  refine Calls.call_function_entry kind_sorted plain_sorted entry_sorted (args_sorted1 _) ?_
  unfold Builtin.«sorted»
  refine wpAny_bind (m := checkCount "sorted" 1 1 _) (wpAny_pure ?_)
  refine wpAny_bind (collect_ct hT ho hc hd hz ?_)
  refine wpAny_bind (wpAny_newList ?_ hz)
  let h1 : Heap := ((s.heap.push (seqObj "list" #[] 0)).update s.heap.objs.size (Obj.mapSeq (· ++ vs.toArray))).push (seqObj "list" vs.toArray 0)
  have hsz : ((s.heap.push (seqObj "list" #[] 0)).update s.heap.objs.size (Obj.mapSeq (· ++ vs.toArray))).objs.size = s.heap.objs.size + 1 := by
    rw [Heap.size_update, size_push']
  have hoL : h1.get? (s.heap.objs.size + 1) = some (seqObj "list" vs.toArray 0) := by
    rw [← hsz]
    exact Heap.get?_push_size _ rfl
  have keep : ∀ b o, s.heap.get? b = some o → b ≠ s.heap.objs.size + 1 ∧ h1.get? b = some o := by
    intro b o q
    have hlt : b < s.heap.objs.size := Heap.lt_size q
    refine ⟨Nat.ne_of_lt (Nat.lt_succ_of_lt hlt), Heap.get?_push_of_some _ ?_⟩
    rw [Heap.get?_update_ne _ _ _ _ (Nat.ne_of_lt hlt)]
    exact Heap.get?_push_of_some _ q
  show wpAny _ _ _ _ _ { s with heap := h1 }
  rw [hsz]
  refine wpAny_bind (wpAny_holding (wpAny_call_entry slot_list_sort ⟨_, hoL, rfl⟩ entry_list_sort
    (SrtO.list_sort_ord O hoL hz (fun h2 => hS h2 _ _ hoL keep) ?_) (args_list_sort _)))
  intro out hs hb
  refine ⟨_, rfl, wpAny_pure ⟨_, rfl, ?_⟩⟩
  have e : sortedHeap h1 (s.heap.objs.size + 1) vs out.toArray = sortedAll s.heap vs out.toArray := rfl
  refine h out _ _ hs hb (Nat.le_succ _) (fun b o q => ?_) ?_
  · rw [e]
    exact sortedAll_old q
  · rw [e]
    exact sortedAll_at s.heap vs out.toArray
end

theorem perm_map_ex {α β : Type} {f : α → β} {m m' : List β} (h : m.Perm m') : ∀ {l : List α}, l.map f = m' → ∃ l' : List α, l'.Perm l ∧ l'.map f = m := by
  induction h with
  | nil => intro l e; exact ⟨l, List.Perm.refl _, e⟩
  | cons x _ ih =>
    intro l e
    cases l with
    | nil => cases e
    | cons a l =>
      obtain ⟨e1, e2⟩ := List.cons.inj e
      obtain ⟨l', p, q⟩ := ih e2
      exact ⟨a :: l', p.cons a, by rw [List.map_cons, e1, q]⟩
  | swap x y r =>
    intro l e
    cases l with
    | nil => cases e
    | cons a l => cases l with
      | nil => cases e
      | cons b l =>
        obtain ⟨e1, e2⟩ := List.cons.inj e
        obtain ⟨e2, e3⟩ := List.cons.inj e2
        exact ⟨b :: a :: l, List.Perm.swap a b l, by rw [List.map_cons, List.map_cons, e1, e2, e3]⟩
  | trans _ _ ih1 ih2 =>
    intro l e
    obtain ⟨l1, p1, q1⟩ := ih2 e
    obtain ⟨l2, p2, q2⟩ := ih1 q1
    exact ⟨l2, p2.trans p1, q2⟩
/-- a value with what it is and its datum -/
abbrev VD := V × PyData × Value
theorem vd_of {K : PySem.W.Frag} {H : Hp} : ∀ {xs : List V} {ds : List PyData} {us : List Value}, DpAll K H xs ds → Vals xs us →
    ∃ T : List VD, T.map (·.1) = xs ∧ T.map (·.2.1) = ds ∧ T.map (·.2.2) = us ∧ ∀ t ∈ T, Dp K H t.1 t.2.1 ∧ RelV t.1 t.2.2
  | _, _, _, .nil, .nil => ⟨[], rfl, rfl, rfl, fun _ h => nomatch h⟩
  | _, _, _, .cons a b, .cons c d => by
    obtain ⟨T, h1, h2, h3, h4⟩ := vd_of b d
    refine ⟨(_, _, _) :: T, by rw [List.map_cons, h1], by rw [List.map_cons, h2], by rw [List.map_cons, h3], ?_⟩
    intro t ht
    rcases List.mem_cons.mp ht with e | ht
    · subst e; exact ⟨a, c⟩
    · exact h4 t ht
theorem dp_of_vd {K : PySem.W.Frag} {H : Hp} : ∀ {T : List VD}, (∀ t ∈ T, Dp K H t.1 t.2.1 ∧ RelV t.1 t.2.2) →
    DpAll K H (T.map (·.1)) (T.map (·.2.1)) ∧ Vals (T.map (·.1)) (T.map (·.2.2))
  | [], _ => ⟨.nil, .nil⟩
  | t :: T, h => by
    have q := dp_of_vd (T := T) fun t ht => h t (List.mem_cons_of_mem _ ht)
    have p := h t List.mem_cons_self
    exact ⟨.cons p.1 q.1, .cons p.2 q.2⟩
/-- sorted(c) of data -/
def rSortD (K : PySem.W.Frag) : List V → Hp → VK → Prop := fun vs H Q => ∃ (A : Hp) (c : Addr) (xs : List V) (ds : List PyData), vs = [.ref c] ∧ Same A H ∧
  (SqL K H c xs ∨ SqT K H c xs) ∧ DpAll K A xs ds ∧ PyData.canLayAll0 ds = true ∧ SortOk ds ∧ (∀ d ∈ ds, d.depth ≤ 20) ∧
  ∀ ys es p, ys.Perm xs → es.Perm ds → es.Pairwise (fun a b => dLt b a = false) → DpAll K A ys es → H p = none → Q (.ref p) (upd H p (.lst ys))
section
variable {X : Cx}
theorem cr_sortD (hu : X.A.units + 64 < cLine) : CallR X (.builtin "sorted") (rSortD X.K) := by
  intro pins s σ H vs us Q I r h
  obtain ⟨A, c, xs, ds, rfl, sA, hs, hallA, hcl, hok, hdep, q⟩ := h
  have hall : DpAll X.K H xs ds := DpAll.mono sA hallA
  obtain ⟨u, rfl, ru⟩ := vals1 r
  cases ru
  obtain ⟨its, rv, T, o, n, hT, ho, hc, hd, hz⟩ : ∃ its : List Value, Vals xs its ∧ ∃ (T : String) (o : Obj) (n : Nat), (T = "list" ∨ T = "tuple") ∧
      s.heap.get? c = some o ∧ o.cls = .type T ∧ o.data = .seq its.toArray n ∧ xs.length ≤ sizeLine := by
    rcases hs with hs | hs
    · obtain ⟨its, rv, ⟨o, n, ho, hc, _, hd⟩, hz⟩ := I.list hs
      exact ⟨its, rv, "list", o, n, .inl rfl, ho, hc, hd, hz⟩
    · obtain ⟨its, rv, ⟨o, ho, hc, n, hd⟩, hz⟩ := I.tuple hs
      exact ⟨its, rv, "tuple", o, n, .inr rfl, ho, hc, hd, hz⟩
  obtain ⟨as, ra⟩ := Dp.readsAll I ds xs its hall rv
  obtain ⟨L, l1, l2, l3, l4⟩ := vd_of hallA rv
  have hf : its.map (SeqAt.readOf s.heap) = ds := SeqAt.readsAll_map ds its as hcl ra
  refine sorted_seq hT ho hc hd (by rw [← rv.length]; exact hz) (dLt_swo (SeqAt.readOf s.heap)) ?_ ?_
  · intro h2 h1 a ha keep
    refine sortable_data (s := { s with heap := h1 }) h2 (PyProof.Rows.ReadsAll.keeps (fun b o e => (keep b o e).2) ra) hcl hok ?_ ha (SeqAt.readOf s.heap) hf s.heap keep ra
    intro d hd
    have := hdep d hd
    show X.A.units + 1 + 1 + d.depth < cLine
    omega
  · intro out h' p hs hb hp keep hnew
    obtain ⟨L', p1, p2⟩ := perm_map_ex (f := fun t : VD => t.2.2) hb.perm l3
    have q4 : ∀ t ∈ L', Dp X.K A t.1 t.2.1 ∧ RelV t.1 t.2.2 := fun t ht => l4 t (p1.mem_iff.mp ht)
    obtain ⟨g1, g2⟩ := dp_of_vd q4
    rw [p2] at g2
    obtain ⟨m, hm⟩ := hnew
    have len : (L'.map (·.1)).length ≤ sizeLine := by
      rw [List.length_map, p1.length_eq, ← List.length_map (f := fun t : VD => t.1), l1]
      exact hz
    refine ⟨.ref p, upd H p (.lst (L'.map (·.1))), I.laid (t' := s.toks) keep hp ⟨len, out, m, g2, hm⟩, rfl, ?_⟩
    refine q _ _ p ?_ ?_ ?_ g1 (I.hok.fresh hp)
    · rw [← l1]; exact p1.map _
    · rw [← l2]; exact p1.map _
    · -- the order
      have fe : ∀ t ∈ L, SeqAt.readOf s.heap t.2.2 = t.2.1 := by
        intro t ht
        obtain ⟨i, hi⟩ := List.mem_iff_getElem?.mp ht
        have e1 : its[i]? = some t.2.2 := by rw [← l3, List.getElem?_map, hi]; rfl
        have e2 : ds[i]? = some t.2.1 := by rw [← l2, List.getElem?_map, hi]; rfl
        rw [← hf, List.getElem?_map, e1] at e2
        exact Option.some.inj e2
      rw [← p2] at hs
      have hs' := List.pairwise_map.mp hs
      refine List.pairwise_map.mpr (hs'.imp_of_mem ?_)
      intro x y hx hy e
      have e' : dLt (SeqAt.readOf s.heap y.2.2) (SeqAt.readOf s.heap x.2.2) = false := e
      rw [fe x (p1.mem_iff.mp hx), fe y (p1.mem_iff.mp hy)] at e'
      exact e'
end
end CB
set_option Elab.async false
set_option linter.all false
set_option maxRecDepth 100000
set_option maxHeartbeats 8000000
namespace CB
open PySem PySem.Spec
open PyProof.Rows L2

/-! ### len(set(t)), t a tuple of different texts -/
abbrev sObj (led : Bool) : Obj := { cls := .type "set", dict := none, data := .set #[] 0 (.fresh 0 0 led) }
abbrev tIt (l : Addr) : Obj := { cls := .type "tuple_iterator", data := .fields #[.ref l, .int 0 0] }
section
variable {P : Program} {w : World} {A : Around} {E : Value → Shared → Prop} {s : Shared}
/-- the set of the first i texts at S -/
abbrev Has (P : Program) (w : World) (h : Heap) (S : Addr) (xs : List Str) (i : Nat) : Prop :=
  h.SetOf (PySem.strKind P w) S (fun j => decide (j ∈ xs.take i)) i
theorem Has.at_ {h h' : Heap} {S : Addr} {xs : List Str} {i : Nat} (x : Has P w h S xs i) (k : ∀ o, h.get? S = some o → h'.get? S = some o) : Has P w h' S xs i := by
  obtain ⟨o, es, ep, tb, ho, rest⟩ := x
  exact ⟨o, es, ep, tb, k o ho, rest⟩
theorem upd_strs {I : Addr} {fp wr : List Addr} {G : Array GenState → Array GenState → Prop} {n : Nat} {Pv : Nat → Value → Prop}
    {St : Nat → Shared → Prop} {R : Result → Shared → Prop} (W : WalksS P w A.in1 I fp wr G n Pv St) (S : Addr) (hSf : S ∉ fp) (xs : List Str)
    (hn : n = xs.length) (nd : xs.Nodup) (hb : xs.length + 1 < scanBound) (hval : ∀ i v, Pv i v → ∃ k t, xs[i]? = some k ∧ v = .str k t) :
    ∀ (k i : Nat) (s : Shared), n - i = k → i ≤ n → St i s → Has P w s.heap S xs i →
      (∀ s', Moved (S :: wr) G s s' → Has P w s'.heap S xs n → R (.ok (.ret .none)) s') →
      codeAny (model P w) A (.builtin "set.update.loop" ⟨[.ref S, .ref I], []⟩) R s := by
  have nSw : S ∉ wr := fun z => hSf (W.sub _ z)
  have sub2 : ∀ b ∈ wr, b ∈ S :: wr := fun b z => List.mem_cons_of_mem _ z
  intro k
  induction k with
  | zero =>
    intro i s ek hi hst hS hR
    obtain rfl : i = n := by omega
    refine codeAny_builtin PyProof.Rows.F.entry_set_update_loop ?_
    rw [Around.under_plainId PyProof.Rows.F.plain_set_update_loop _]
    show wpAny _ A.in1 (pyNext (.ref I) >>= _) _ _ s
    refine wpAny_bind (W.done s _ _ hst ?_)
    intro s' hm
    show wpAny _ A.in1 (ret Value.none) _ _ s'
    exact wpAny_pure (hR s' (hm.mono sub2) (hS.at_ fun o e => hm.heap S o nSw e))
  | succ k ih =>
    intro i s ek hi hst hS hR
    have hlt : i < n := by omega
    refine codeAny_builtin PyProof.Rows.F.entry_set_update_loop ?_
    rw [Around.under_plainId PyProof.Rows.F.plain_set_update_loop _]
    show wpAny _ A.in1 (pyNext (.ref I) >>= _) _ _ s
    refine wpAny_bind (W.item i s _ _ hlt hst ?_)
    intro v s' hP hst' hm
    obtain ⟨z, t, hz, rfl⟩ := hval i v hP
    have hS1 : Has P w s'.heap S xs i := hS.at_ fun o e => hm.heap S o nSw e
    show wpAny _ A.in1 (holding [Value.str z t] (setAdd S (.str z t)) >>= _) _ _ s'
    refine wpAny_bind (wpAny_holding ?_)
    unfold setAdd
    refine wpAny_holding ?_
    refine wpAny_bind ((PySem.strKind P w).pyHash (k := z) (strKind_is _ _ _ _) ?_)
    have hzi : xs[i]'(by omega) = z := (List.getElem?_eq_some_iff.mp hz).2
    have hnew : decide (z ∈ xs.take i) = false := by
      refine decide_eq_false fun hm => ?_
      obtain ⟨j, hj⟩ := List.mem_iff_getElem?.mp hm
      rw [List.getElem?_take] at hj
      by_cases hji : j < i
      · rw [if_pos hji] at hj
        obtain ⟨hjl, ej⟩ := List.getElem?_eq_some_iff.mp hj
        exact List.pairwise_iff_getElem.mp nd j i hjl (by omega) hji (ej.trans hzi.symm)
      · rw [if_neg hji] at hj
        cases hj
    refine wpAny_setAddHashed_of (knd := PySem.strKind P w) (s := { s' with toks := s'.toks + 1 }) (strKind_is _ _ _ _) rfl hS1 (by omega) ?_
    intro h' hsb hS2
    have hS3 : Has P w h' S xs (i + 1) := by
      refine SetOf_congr hS2 (fun j => ?_) ?_
      · rw [List.take_add_one, hz]
        simp [List.mem_append]
      · rw [hnew]
        rfl
    refine wpAny_pure ⟨plainId_quiet PyProof.Rows.F.plain_set_update_loop _, ih (i + 1) _ (by omega) hlt (W.frame _ s' _ _ hst' (Nat.le_succ _) ?_) hS3 ?_⟩
    · intro b hb o e
      rw [hsb.2 b (fun z : b = S => hSf (by rw [← z]; exact hb))]
      exact e
    · intro s'' hm'' hS''
      refine hR s'' (Moved.trans W.gtrans ((hm.mono sub2).then_heap (Nat.le_succ _) ?_) hm'') hS''
      intro b o hb e
      rw [hsb.2 b (fun z : b = S => hb (by rw [z]; exact List.mem_cons_self))]
      exact e

theorem call_set_tupK {l : Addr} {items : Array Value} (xs : List Str) {Q : Value → Shared → Prop} (hh : A.handled = none) (hl : s.heap.IsTuple l items)
    (hit : StrsAre items.toList xs) (nd : xs.Nodup) (hb : xs.length + 1 < scanBound)
    (h : ∀ (h' : Heap) (tk : Nat), Has P w h' s.heap.objs.size xs xs.length → (∀ b o, s.heap.get? b = some o → h'.get? b = some o) →
      Q (.ref s.heap.objs.size) { s with heap := h', toks := tk }) :
    wpAny (model P w) A (call (.type "set") [.ref l]) Q E s := by
  have hisz : items.size = xs.length := by
    have q := StrsAre.length hit
    rw [Array.length_toList] at q
    exact q
  obtain ⟨c, tl, hmro⟩ := PySem.F.called_set.mro
  have hmade := PySem.F.called_set.made
  have hsub := PySem.F.called_set.sub
  refine wpAny_call (codeAny_of_tree ?_)
  show wpAny _ _ (callAny (.type "set") _) _ _ _
  refine wpAny_pure ⟨Code.quiet_builtin _ (by decide +kernel), codeAny_builtin PySem.F.entry_type_call ?_⟩
  rw [Around.under_plain (weight_type_call_type "set" [.ref l] []) rfl]
  have h1 := PySem.F.called_set.notType
  have h2 := PySem.F.called_set.canCreate
  have hct := PySem.F.typeCall_set_1 (.ref l)
  repeat (any_goals (first | assumption | wp_step))
  refine codeAny_mono (code_set_new_1 (.ref l) (E := E)
    (Q₁ := fun obj t => ∃ led : Bool, obj = .ref s.heap.objs.size ∧ t = { s with heap := s.heap.push (sObj led) }) fun led => ⟨led, rfl, rfl⟩) ?_
  intro r s1 hr
  cases r with
  | error e => exact hr
  | ok fl => cases fl with
    | ret obj =>
      obtain ⟨led, rfl, rfl⟩ := hr
      have hS : (s.heap.push (sObj led)).get? s.heap.objs.size = some (sObj led) := Heap.get?_push_size _ rfl
      have hT : Shared.TypeIs { s with heap := s.heap.push (sObj led) } (.ref s.heap.objs.size) "set" := ⟨_, hS, rfl⟩
      have hli := PySem.F.called_set.init.lookup
      have hbi := PySem.F.called_set.init.bind (.ref s.heap.objs.size)
      repeat (any_goals (first | assumption | wp_step))
      refine codeAny_mono (codeAny_call_builtin (R := wants (fun r t => r = .none ∧ ∃ h' tk, t = { s with heap := h', toks := tk } ∧
          Has P w h' s.heap.objs.size xs xs.length ∧ (∀ b o, s.heap.get? b = some o → h'.get? b = some o)) E)
          PySem.F.called_set.init.plain PySem.F.entry_set_init (check_set_init_1 hT ?_)) ?_
      · obtain ⟨ol, hol, hcl, nl, hdl⟩ := hl
        obtain ⟨ocls, odict, odata, oslots⟩ := ol
        simp only at hcl hdl
        subst hcl
        subst hdl
        have hol' : (s.heap.push (sObj led)).get? l = some { cls := .type "tuple", dict := odict, data := .seq items nl, slots := oslots } :=
          Heap.get?_push_of_some _ hol
        have hsls := PySem.F.sub_tuple_set
        have hslf := PySem.F.sub_tuple_frozenset
        have hne : (Value.type "tuple" == Value.type "dict") = false := by decide
        have hl1 : (s.heap.push (sObj led)).IsTuple l items := ⟨_, hol', rfl, nl, rfl⟩
        unfold Builtin.«set.__init__» noKeywords Builtin.Frozenset.updateFrom
        generalize hPI : pyIter = PI
        wp_walk
        subst hPI
        refine wpAny_pyIter_tuple hl1 ?_
        refine wpAny_bind (wpAny_runValue ?_)
        have hlS : l < s.heap.objs.size := Heap.lt_size hol
        have hh3 : A.in1.in1.in1.handled = none := by simp [hh]
        have hz1 : (s.heap.push (sObj led)).objs.size = s.heap.objs.size + 1 := Heap.size_push ..
        have hneI : l ≠ (s.heap.push (sObj led)).objs.size := by
          rw [hz1]; exact Nat.ne_of_lt (Nat.lt_succ_of_lt hlS)
        have hSf : s.heap.objs.size ∉ [(s.heap.push (sObj led)).objs.size, l] := by
          rw [hz1]
          simp only [List.mem_cons, List.not_mem_nil, or_false, not_or]
          exact ⟨Nat.ne_of_lt (Nat.lt_succ_self _), Nat.ne_of_gt hlS⟩
        have hval : ∀ (i : Nat) (v : Value), items[i]? = some v → ∃ k t, xs[i]? = some k ∧ v = .str k t := by
          intro i v hv
          have hi : i < xs.length := by rw [← hisz]; exact (Array.getElem?_eq_some_iff.mp hv).1
          have hv' : items.toList[i]? = some v := by rw [Array.getElem?_toList]; exact hv
          clear hisz nd hb h hSf
          revert hv' hi
          generalize items.toList = L at hit
          clear hv
          induction hit generalizing i with
          | nil => intro hi; cases hi
          | cons y t r ih =>
            intro hi hv'
            cases i with
            | zero =>
              simp at hv'
              exact ⟨y, t, rfl, hv'.symm⟩
            | succ i =>
              obtain ⟨k', t', e1, e2⟩ := ih i (by simpa using hi) (by simpa using hv')
              exact ⟨k', t', by simpa using e1, e2⟩
        refine upd_strs ((Walks.tuple hh3 _ l hneI items).toS) s.heap.objs.size hSf xs hisz nd hb hval (items.size - 0) 0 _ (by omega) (Nat.zero_le _)
          ⟨⟨_, Heap.get?_push_size _ rfl, rfl, rfl⟩, hl1.push _⟩ ?hS0 ?hR
        case hS0 =>
          have hget : ((s.heap.push (sObj led)).push (tIt l)).get? s.heap.objs.size = some (sObj led) := Heap.get?_push_of_some _ hS
          refine ⟨_, #[], 0, _, hget, ⟨rfl, rfl, rfl⟩, rfl, ?_, ?_, ?_, ?_, ?_⟩
          · intro e he
            simp at he
          · intro k
            simp
          · show (#[] : Array _).size < scanBound
            unfold scanBound; decide
          · rfl
          · rfl
        case hR =>
          intro s' hm hS'
          obtain ⟨h', g2, d', tk', os'⟩ := s'
          have eg : g2 = s.gens := hm.gens
          have ed : d' = s.drawn := hm.drawn
          have eo : os' = s.os := hm.os
          subst eg
          subst ed
          subst eo
          show wpAny _ _ _ _ _ _
          refine wpAny_pure ?_
          show wpAny _ _ (ret Value.none) _ _ _
          rw [hisz] at hS'
          refine wpAny_pure ⟨rfl, h', tk', rfl, hS', ?_⟩
          intro b o e
          have hb0 : b < s.heap.objs.size := Heap.lt_size e
          refine hm.heap b o ?_ (Heap.get?_push_of_some _ (Heap.get?_push_of_some _ e))
          rw [hz1]
          simp only [List.mem_cons, List.not_mem_nil, or_false, not_or]
          exact ⟨Nat.ne_of_lt hb0, Nat.ne_of_lt (Nat.lt_succ_of_lt hb0)⟩
      · intro r₂ s₂ hr₂
        cases r₂ with
        | error e => exact hr₂
        | ok fl₂ =>
          cases fl₂ with
          | ret r =>
            obtain ⟨rfl, h', tk, rfl, hS', hk'⟩ := hr₂
            repeat (any_goals (first | assumption | wp_step))
            exact h _ _ hS' hk'
          | _ => exact hr₂.elim
    | _ => exact hr.elim
end
def tLenSetT (K : PySem.W.Frag) (ta : TE) : TE := fun σ H Q => ta σ H fun x H1 => ∃ (l : Addr) (xs : List Str), x = .ref l ∧ SqT K H1 l (xs.map V.str) ∧
  xs.Nodup ∧ xs.length ≤ 4000 ∧ Q (.int (xs.length : Nat)) H1
theorem pe_lenSetT {X : Cx} {a : Expr} {ta : TE} {p p2 q pos : Pos} (hm : X.mg "len" = none) (hm2 : X.mg "set" = none) (ha : PE X a ta)
    (hg : Gl X "len" := by rfl) (hg2 : Gl X "set" := by rfl) (hc : X.calm = true := by rfl)
    (na : starEach [a] X.env = (false, eval a X.env) :: starEach [] X.env := by rfl) :
    PE X (.Call (.Name "len" p) [.Call (.Name "set" p2) [a] [] q] [] pos) (tLenSetT X.K ta) := by
  constructor
  intro pins s σ H Q I h
  refine Call_ (ld_blt I hg hm boot_len ?_)
  refine PyProof.Rows.callWith_builtin1 (PyProof.Rows.args_cons ?_ rfl) rfl rfl
  refine Call_ (ld_blt I hg2 hm2 boot_set ?_)
  refine PyProof.Rows.callWith_type1 (PyProof.Rows.args_cons (thn (ha.run pins s σ H _ I h) ?_) na) na rfl
  rintro v s1 ⟨x, H1, I1, r1, l, xs, rfl, hq, hnd, hl, q1⟩
  refine PyProof.Rows.args_nil ?_
  cases r1
  obtain ⟨its, r, pl, hz⟩ := I1.tuple hq
  refine call_set_tupK xs (I1.ok.hd hc) pl (by simpa using strsAre_of r) hnd (by unfold scanBound; omega) ?_
  intro h' tk hS hk
  refine PyProof.Rows.args_nil ?_
  obtain ⟨o, es, ep, t, ho, hex, hd, _, _, _, hf, hn⟩ := hS
  have I2 : Inv X pins σ H1 { s1 with heap := h', toks := tk } := I1.kept hk
  exact call_len_set ho hex hd hf (by rw [hn]; omega) ⟨.int xs.length, H1, I2.tok _, ⟨_, by rw [hn]⟩, q1⟩
end CB
set_option Elab.async false
set_option linter.all false
set_option maxRecDepth 100000
set_option maxHeartbeats 4000000
namespace CB
open PySem PySem.Spec
open PyProof.Rows L2
open PySem.W (Datum Tup)

/-! ### data with a Lean type -/
section
variable {α β : Type} [DecidableEq α] [Datum α] [DecidableEq β] [Datum β]
/-- v is x on the heap H -/
abbrev Hd (K : PySem.W.Frag) (H : Hp) (v : V) (x : α) : Prop := Dp K H v (Datum.toD x)
abbrev HdAll (K : PySem.W.Frag) (H : Hp) (vs : List V) (xs : List α) : Prop := DpAll K H vs (xs.map Datum.toD)
variable {K : PySem.W.Frag} {A H : Hp}
theorem hd_str (x : Str) : Hd K H (.str x) x := Dp.str x
theorem hd_int (x : Int) : Hd K H (.int x) x := Dp.int x
theorem hd_str_inv {v : V} {x : Str} (h : Hd K H v x) : v = .str x := Dp.str_inv h
theorem hd_int_inv {v : V} {x : Int} (h : Hd K H v x) : v = .int x := Dp.int_inv h
theorem all_nil : HdAll K H [] ([] : List α) := .nil
theorem all_one {v : V} {x : α} (h : Hd K H v x) : HdAll K H [v] [x] := .cons h .nil
theorem all_cons {v : V} {vs : List V} {x : α} {xs : List α} (h : Hd K H v x) (hs : HdAll K H vs xs) : HdAll K H (v :: vs) (x :: xs) := .cons h hs
theorem all_app {vs ws : List V} {xs ys : List α} (h : HdAll K H vs xs) (g : HdAll K H ws ys) : HdAll K H (vs ++ ws) (xs ++ ys) := by
  unfold HdAll
  rw [List.map_append]
  exact h.append g
theorem all_len {vs : List V} {xs : List α} (h : HdAll K H vs xs) : vs.length = xs.length := by
  have := DpAll.length h
  rwa [List.length_map] at this
theorem all_get {vs : List V} {xs : List α} {i : Nat} {v : V} (h : HdAll K H vs xs) (e : vs[i]? = some v) : ∃ x, xs[i]? = some x ∧ Hd K H v x := by
  obtain ⟨d, e1, e2⟩ := DpAll.get h e
  rw [List.getElem?_map] at e1
  cases q : xs[i]? with
  | none => rw [q] at e1; cases e1
  | some x =>
    rw [q] at e1
    cases e1
    exact ⟨x, rfl, e2⟩
theorem all_at {vs : List V} {xs : List α} {i : Nat} {x : α} (h : HdAll K H vs xs) (e : xs[i]? = some x) : ∃ v, vs[i]? = some v ∧ Hd K H v x := by
  have : (xs.map Datum.toD)[i]? = some (Datum.toD x) := by rw [List.getElem?_map, e]; rfl
  exact DpAll.getD h this
theorem all_strs (xs : List Str) : HdAll K H (xs.map V.str) xs := DpAll.strs xs
theorem all_ints (xs : List Int) : HdAll K H (xs.map V.int) xs := DpAll.ints xs
theorem all_strs_inv {vs : List V} {xs : List Str} (h : HdAll K H vs xs) : vs = xs.map V.str := DpAll.strs_inv h
theorem all_ints_inv {vs : List V} {xs : List Int} (h : HdAll K H vs xs) : vs = xs.map V.int := DpAll.ints_inv h
theorem all_take {vs : List V} {xs : List α} (n : Nat) (h : HdAll K H vs xs) : HdAll K H (vs.take n) (xs.take n) := by
  unfold HdAll
  rw [List.map_take]
  exact h.take n
theorem all_drop {vs : List V} {xs : List α} (n : Nat) (h : HdAll K H vs xs) : HdAll K H (vs.drop n) (xs.drop n) := by
  unfold HdAll
  rw [List.map_drop]
  exact h.drop n
theorem all_rev {vs : List V} {xs : List α} (h : HdAll K H vs xs) : HdAll K H vs.reverse xs.reverse := by
  unfold HdAll
  rw [List.map_reverse]
  exact h.reverse
theorem hd_tup_inv {v : V} {t : Tup α} (h : Hd K H v t) : ∃ a xs, v = .ref a ∧ SqT K H a xs ∧ HdAll K H xs t.items := Dp.tup_inv h
theorem hd_lst_inv {v : V} {t : List α} (h : Hd K H v t) : ∃ a xs, v = .ref a ∧ SqL K H a xs ∧ HdAll K H xs t := Dp.lst_inv h
theorem hd_pair_inv {v : V} {p : α × β} (h : Hd K H v p) : ∃ a x y, v = .ref a ∧ SqT K H a [x, y] ∧ Hd K H x p.1 ∧ Hd K H y p.2 := by
  obtain ⟨a, xs, e, h1, h2⟩ := Dp.tup_inv h
  obtain ⟨x, y, rfl, h3, h4⟩ := h2.two_inv
  exact ⟨a, x, y, e, h1, h3, h4⟩
/-- a tuple of texts -/
theorem hd_strT {v : V} {t : Tup Str} (h : Hd K H v t) : ∃ a, v = .ref a ∧ SqT K H a (t.items.map V.str) := by
  obtain ⟨a, xs, rfl, h1, h2⟩ := hd_tup_inv h
  cases all_strs_inv h2
  exact ⟨a, rfl, h1⟩
theorem hd_intT {v : V} {t : Tup Int} (h : Hd K H v t) : ∃ a, v = .ref a ∧ SqT K H a (t.items.map V.int) := by
  obtain ⟨a, xs, rfl, h1, h2⟩ := hd_tup_inv h
  cases all_ints_inv h2
  exact ⟨a, rfl, h1⟩
/-- what is made -/
theorem hd_tup {a : Addr} {xs : List V} {t : Tup α} (h : SqT K H a xs) (h2 : HdAll K H xs t.items) : Hd K H (.ref a) t := Dp.tup h h2
theorem hd_lst {a : Addr} {xs : List V} {t : List α} (h : SqL K H a xs) (h2 : HdAll K H xs t) : Hd K H (.ref a) t := Dp.lst h h2
theorem hd_pair {a : Addr} {x y : V} {p : α × β} (h : SqT K H a [x, y]) (h1 : Hd K H x p.1) (h2 : Hd K H y p.2) : Hd K H (.ref a) p :=
  Dp.tup h (.cons h1 (.cons h2 .nil))
theorem sqt_new {a : Addr} {xs : List V} : SqT K (upd H a (.tup xs)) a xs := .inl (.inl upd_same)
theorem sql_of {a : Addr} {xs : List V} (h : H a = some (.lst xs)) : SqL K H a xs := .inl (.inl h)
theorem sqt_of {a : Addr} {xs : List V} (h : H a = some (.tup xs)) : SqT K H a xs := .inl (.inl h)

/-! ### == != in on typed data -/
def rEqX (α : Type) [DecidableEq α] [Datum α] (K : PySem.W.Frag) (g : Bool → Bool) : R2 := fun x y H Q => ∃ a b : α, Hd K H x a ∧ Hd K H y b ∧ Q (.bl (g (decide (a = b)))) H
def rInX (α : Type) [DecidableEq α] [Datum α] (K : PySem.W.Frag) (g : Bool → Bool) : R2 := fun x y H Q => ∃ (a : α) (xs : List α), Hd K H x a ∧ (Hd K H y xs ∨ Hd K H y (Tup.mk xs)) ∧ Q (.bl (g (decide (a ∈ xs)))) H
variable {X : Cx}
theorem room_x {d e : PyData} {u : Nat} (h : d.depth ≤ 50) (hu : u + 64 < cLine) : u + min d.depth e.depth < cLine := by
  have := Nat.min_le_left d.depth e.depth
  omega
theorem op_eqX (α : Type) [DecidableEq α] [Datum α] (hu : X.A.units + 64 < cLine) (hd : Datum.depth α ≤ 50 := by decide) : OpR X (compareOp .Eq) (rEqX α X.K fun b => b) := by
  intro pins s σ H x y v u Q I rx ry h
  obtain ⟨a, b, ha, hb, q⟩ := h
  obtain ⟨as, r1⟩ := Dp.reads I _ x v ha rx
  obtain ⟨bs, r2⟩ := Dp.reads I _ y u hb ry
  refine PySem.W.eq_datum ⟨as, r1⟩ ⟨bs, r2⟩ (by omega) ?_
  exact ⟨.bl _, H, I, rfl, q⟩
theorem op_neX (α : Type) [DecidableEq α] [Datum α] (hu : X.A.units + 64 < cLine) (hd : Datum.depth α ≤ 50 := by decide) : OpR X (compareOp .NotEq) (rEqX α X.K fun b => !b) := by
  intro pins s σ H x y v u Q I rx ry h
  obtain ⟨a, b, ha, hb, q⟩ := h
  obtain ⟨as, r1⟩ := Dp.reads I _ x v ha rx
  obtain ⟨bs, r2⟩ := Dp.reads I _ y u hb ry
  refine PySem.SeqAt.ne_plain r1 r2 (Datum.plain a) (Datum.plain b) (room_x (Nat.le_trans (Datum.depth_le a) hd) hu) ?_
  rw [Datum.eqv a b]
  exact ⟨.bl _, H, I, rfl, q⟩
theorem room_y {m n u : Nat} (h : m ≤ 50) (hu : u + 64 < cLine) : u + 1 + min n m < cLine := by
  have := Nat.min_le_right n m
  omega
theorem op_inX (α : Type) [DecidableEq α] [Datum α] (hu : X.A.units + 64 < cLine) (hd : Datum.depth α ≤ 50 := by decide) : OpR X (compareOp .In) (rInX α X.K fun b => b) := by
  intro pins s σ H x y v u Q I rx ry h
  obtain ⟨a, xs, ha, hb, q⟩ := h
  obtain ⟨as, r1⟩ := Dp.reads I _ x v ha rx
  have hp : (xs.map Datum.toD : List PyData).any (fun d => PyData.eqv d (Datum.toD a)) = decide (a ∈ xs) := PySem.W.any_datum xs a
  have hpl : PyData.plainAll (xs.map Datum.toD) = true := PySem.W.plainAll_map xs
  rcases hb with hb | hb
  · obtain ⟨bs, r2⟩ := Dp.reads I (.list (xs.map Datum.toD)) y u hb ry
    refine PySem.SeqAt.in_list_data r2 r1 hpl (Datum.plain a) (room_y (Nat.le_trans (Datum.depth_le a) hd) hu) ?_
    rw [hp]
    exact ⟨.bl _, H, I, rfl, q⟩
  · obtain ⟨bs, r2⟩ := Dp.reads I (.tuple (xs.map Datum.toD)) y u hb ry
    refine PySem.SeqAt.in_tuple_data r2 r1 hpl (Datum.plain a) (room_y (Nat.le_trans (Datum.depth_le a) hd) hu) ?_
    rw [hp]
    exact ⟨.bl _, H, I, rfl, q⟩
theorem op_notInX (α : Type) [DecidableEq α] [Datum α] (hu : X.A.units + 64 < cLine) (hd : Datum.depth α ≤ 50 := by decide) : OpR X (compareOp .NotIn) (rInX α X.K fun b => !b) := by
  intro pins s σ H x y v u Q I rx ry h
  obtain ⟨a, xs, ha, hb, q⟩ := h
  obtain ⟨as, r1⟩ := Dp.reads I _ x v ha rx
  have hp : (xs.map Datum.toD : List PyData).any (fun d => PyData.eqv d (Datum.toD a)) = decide (a ∈ xs) := PySem.W.any_datum xs a
  have hpl : PyData.plainAll (xs.map Datum.toD) = true := PySem.W.plainAll_map xs
  rcases hb with hb | hb
  · obtain ⟨bs, r2⟩ := Dp.reads I (.list (xs.map Datum.toD)) y u hb ry
    refine PySem.SeqAt.notIn_list_data r2 r1 hpl (Datum.plain a) (room_y (Nat.le_trans (Datum.depth_le a) hd) hu) ?_
    rw [hp]
    exact ⟨.bl _, H, I, rfl, q⟩
  · obtain ⟨bs, r2⟩ := Dp.reads I (.tuple (xs.map Datum.toD)) y u hb ry
    refine PySem.SeqAt.notIn_tuple_data r2 r1 hpl (Datum.plain a) (room_y (Nat.le_trans (Datum.depth_le a) hd) hu) ?_
    rw [hp]
    exact ⟨.bl _, H, I, rfl, q⟩

/-! ### xs.remove(x), x there -/
def rRemX (α : Type) [DecidableEq α] [Datum α] (K : PySem.W.Frag) : V → List V → Hp → VK → Prop := fun x vs H Q => ∃ (l : Addr) (xs : List V) (y : V) (a : α) (ds : List α) (j : Nat),
  x = .ref l ∧ vs = [y] ∧ H l = some (.lst xs) ∧ HdAll K H xs ds ∧ Hd K H y a ∧ ds[j]? = some a ∧ (∀ m, m < j → ds[m]? ≠ some a) ∧ Q .non (upd H l (.lst (xs.eraseIdx j)))
theorem mt_removeX (α : Type) [DecidableEq α] [Datum α] (hu : X.A.units + 64 < cLine) (hdp : Datum.depth α ≤ 50 := by decide) : MtM X "list.remove" (rRemX α X.K) := by
  intro pins s σ H x vs v us Q I rx rv h
  obtain ⟨l, xs, y, a, ds, j, rfl, rfl, hH, hall, hd, hj, hno, q⟩ := h
  cases rx
  obtain ⟨u, rfl, ru⟩ := rv.one
  obtain ⟨bs, r1⟩ := Dp.reads I _ y u hd ru
  obtain ⟨zl, its, n, r, hl, e0⟩ := I.lstM hH
  obtain ⟨as, h4⟩ := Dp.readsAll I _ xs its hall r
  have hL : s.heap.IsList l its.toArray := ⟨_, e0, rfl, n, rfl⟩
  refine PySem.SeqAt.remove_list_data (xs := ds.map Datum.toD) (d := Datum.toD a) hL (by simpa using h4) r1 (PySem.W.plainAll_map ds) (Datum.plain a)
    (room_y (Nat.le_trans (Datum.depth_le a) hdp) hu) (PySem.W.place_some hj hno) (by rw [List.size_toArray, ← hl]; exact zl) ?_
  refine ⟨.non, _, I.lset (its' := its.eraseIdx j) hH e0 ?_ (r.eraseIdx j) ?_, rfl, q⟩
  · show its.toArray.eraseIdxIfInBounds j = (its.eraseIdx j).toArray
    rw [List.eraseIdxIfInBounds_toArray]
  · have := List.length_eraseIdx_le xs j
    omega
end

/-! ### a list under construction -/
section
variable {α : Type} [DecidableEq α] [Datum α] {K : PySem.W.Frag} {H H' : Hp} {S T : List Addr} {D a b : Addr}
/-- D is a list of the data ds; the data touch none of S, nor D -/
def Ls (K : PySem.W.Frag) (S : List Addr) (H : Hp) (D : Addr) (ds : List α) : Prop := ∃ acc, H D = some (.lst acc) ∧ HdAll K (off H (D :: S)) acc ds
theorem Ls.new {o : HO} (h : o = .lst []) : Ls K S (upd H D o) D ([] : List α) := ⟨[], by rw [upd_same, h], .nil⟩
theorem Ls.kp {ds : List α} (l : Ls K S H D ds) (k : Kp T H H') (n : D ∉ T) (h : ∀ c, c ∈ T → c ∈ S) : Ls K S H' D ds := by
  obtain ⟨acc, h1, h2⟩ := l
  exact ⟨acc, k D _ n h1, DpAll.mono (k.off fun c hc => List.mem_cons_of_mem _ (h c hc)) h2⟩
theorem Ls.push {ds : List α} {v : V} {d : α} (l : Ls K S H D ds) (hd : Hd K (off H (D :: S)) v d) :
    ∃ acc, H D = some (.lst acc) ∧ acc.length = ds.length ∧ Ls K S (upd H D (.lst (acc ++ [v]))) D (ds ++ [d]) := by
  obtain ⟨acc, h1, h2⟩ := l
  have k : Kp [D] H (upd H D (.lst (acc ++ [v]))) := Kp.wr (by simp)
  have m : Same (off H (D :: S)) (off (upd H D (.lst (acc ++ [v]))) (D :: S)) := k.off fun c hc => by simp at hc; simp [hc]
  exact ⟨acc, h1, all_len h2, acc ++ [v], upd_same, all_app (DpAll.mono m h2) (all_one (Dp.mono m hd))⟩
theorem Ls.dp {ds : List α} (l : Ls K S H D ds) (n : D ∉ S) : Hd K (off H S) (.ref D) ds := by
  obtain ⟨acc, h1, h2⟩ := l
  exact hd_lst (sql_of (off_of n h1)) (DpAll.mono (off_mono fun c hc => List.mem_cons_of_mem _ hc) h2)
theorem Ls.all {ds : List α} (l : Ls K S H D ds) : ∃ acc, H D = some (.lst acc) ∧ HdAll K (off H S) acc ds := by
  obtain ⟨acc, h1, h2⟩ := l
  exact ⟨acc, h1, DpAll.mono (off_mono fun c hc => List.mem_cons_of_mem _ hc) h2⟩
/-- data that D's writing does not touch -/
theorem hd_new {v : V} {d : α} {o : HO} (h : Hd K (off H S) v d) (n : H D = none) : Hd K (off (upd H D o) (D :: S)) v d := by
  refine Dp.mono (fun c u e => ?_) h
  obtain ⟨e1, e2⟩ := off_some e
  have ne : c ≠ D := ne_of_none e2 n
  exact off_of (by simp [ne, e1]) (by rw [upd_ne ne]; exact e2)
end
end CB
set_option Elab.async false
set_option linter.all false
set_option maxRecDepth 100000
set_option maxHeartbeats 4000000
namespace CB
open PySem PySem.Spec
open PyProof.Rows L2
open PySem.W (Datum Tup)
def topS (i : Nat) : Stmt := PySem.Challenge.pw_calledbest_k06_whole_logs_played.main.body.getD i (.Pass ⟨0, 0, 0, 0⟩)
/-- the builtin names are the builtins' -/
structure Blt (mg : Str → Option Value) : Prop where
  isinstance : mg "isinstance" = none
  str : mg "str" = none
  tuple : mg "tuple" = none
  len : mg "len" = none
  all : mg "all" = none
  any : mg "any" = none
  set : mg "set" = none
  zip : mg "zip" = none
  list : mg "list" = none
  dict : mg "dict" = none
  sorted : mg "sorted" = none
  enumerate : mg "enumerate" = none
  range : mg "range" = none
  int : mg "int" = none
  abs : mg "abs" = none
  min : mg "min" = none
  repr : mg "repr" = none
/-- the constants of forms.py -/
structure Cst (mg : Str → Option Value) (t1 t2 t3 t4 : Tok) : Prop where
  LETTERS : mg "LETTERS" = some (.str "abcdefghijklmnopqrstuvwxyz" t1)
  MOST_SIGNS : mg "MOST_SIGNS" = some (.int 6 t2)
  MOST_KINDS : mg "MOST_KINDS" = some (.int 6 t3)
  MOST_CALLS : mg "MOST_CALLS" = some (.int 8 t4)
section
variable {X : Cx}
/-- a cut: the reading of the rest replaced by what implies it -/
theorem pss_by {sts : List Stmt} {t : TS} (t' : TS) (h : PSs X sts t) (w : ∀ D σ H, t' D σ H → t D σ H) : PSs X sts t' :=
  ⟨fun pins s σ H D I q => h.run pins s σ H D I (w D σ H q)⟩
theorem pe_by {e : Expr} {t : TE} (t' : TE) (h : PE X e t) (w : ∀ σ H Q, t' σ H Q → t σ H Q) : PE X e t' :=
  ⟨fun pins s σ H Q I q => h.run pins s σ H Q I (w σ H Q q)⟩
end
theorem up_none {H : Hp} {p q : Addr} {o : HO} (h : upd H p o q = none) : q ≠ p ∧ H q = none := by
  by_cases e : q = p
  · rw [e, upd_same] at h; cases h
  · exact ⟨e, by rwa [upd_ne e] at h⟩
theorem Kp.wf {S : List Addr} {H H1 : Hp} {p : Addr} {o : HO} (k : Kp S H H1) (n : H p = none) : Kp S H (upd H1 p o) := by
  intro c u h e
  rw [upd_ne (ne_of_none e n)]
  exact k c u h e
theorem Kp.up {S : List Addr} {H H1 : Hp} {p : Addr} {o : HO} (k : Kp S H H1) (n : H1 p = none) : Kp S H (upd H1 p o) := k.trans (Kp.new n)
theorem Kp.ws {S : List Addr} {H H1 : Hp} {p : Addr} {o : HO} (k : Kp S H H1) (n : p ∈ S) : Kp S H (upd H1 p o) := k.trans (Kp.wr n)
theorem off_sql {K : PySem.W.Frag} {H : Hp} {S : List Addr} {a : Addr} {xs : List V} (h : SqL K (off H S) a xs) : SqL K H a xs := Same.sql off_le h
theorem off_sqt {K : PySem.W.Frag} {H : Hp} {S : List Addr} {a : Addr} {xs : List V} (h : SqT K (off H S) a xs) : SqT K H a xs := Same.sqt off_le h
theorem len_ok {xs : List V} (h : xs.length ≤ 1000) : xs.length ≤ sizeLine := Nat.le_of_lt (small1000 h)
theorem ite3 {c : Bool} {A B : Prop} (h1 : c = true → A) (h2 : c = false → B) : if c = true then A else B := by
  cases c
  · exact h2 rfl
  · exact h1 rfl
end CB
set_option Elab.async false
set_option linter.all false
set_option maxRecDepth 100000
set_option maxHeartbeats 4000000
namespace CB
open PySem PySem.Spec
open PyProof.Rows L2
open PySem.W (Datum Tup DatumOrd)
section
variable {X : Cx}
/-! ### a < b, sorted of typed data -/
def rLtX (α : Type) [DecidableEq α] [DatumOrd α] (K : PySem.W.Frag) : R2 := fun x y H Q => ∃ a b : α, Hd K H x a ∧ Hd K H y b ∧ Q (.bl (DatumOrd.lt a b)) H
theorem op_ltX (α : Type) [DecidableEq α] [DatumOrd α] (hu : X.A.units + 64 < cLine) (hd : Datum.depth α ≤ 50 := by decide) : OpR X (compareOp .Lt) (rLtX α X.K) := by
  intro pins s σ H x y v u Q I rx ry h
  obtain ⟨a, b, ha, hb, q⟩ := h
  refine op_ltD hu pins s σ H x y v u Q I rx ry ⟨_, _, ha, hb, DatumOrd.alike a b, DatumOrd.notNone a, Nat.le_trans (Datum.depth_le a) hd, ?_⟩
  rw [DatumOrd.lt_eq a b]
  exact q
def rSortX (α : Type) [DecidableEq α] [DatumOrd α] (K : PySem.W.Frag) : List V → Hp → VK → Prop := fun vs H Q => ∃ (A : Hp) (c : Addr) (xs : List V) (ds : List α), vs = [.ref c] ∧ Same A H ∧
  (SqL K H c xs ∨ SqT K H c xs) ∧ HdAll K A xs ds ∧ PyData.canLayAll0 (ds.map Datum.toD) = true ∧ PySem.W.Sortable (ds.map Datum.toD) ∧
  ∀ ys (es : List α) p, es.Perm ds → es.Pairwise (fun a b => DatumOrd.lt b a = false) → HdAll K A ys es → H p = none → Q (.ref p) (upd H p (.lst ys))
theorem cr_sortX (α : Type) [DecidableEq α] [DatumOrd α] (hu : X.A.units + 64 < cLine) (hd : Datum.depth α ≤ 20 := by decide) : CallR X (.builtin "sorted") (rSortX α X.K) := by
  intro pins s σ H vs us Q I r h
  obtain ⟨A, c, xs, ds, rfl, sA, hs, hall, hcl, hso, q⟩ := h
  refine cr_sortD hu pins s σ H _ us Q I r ⟨A, c, xs, _, rfl, sA, hs, hall, hcl, .inl ⟨?_, hso⟩, ?_, ?_⟩
  · intro d h1 e h2
    obtain ⟨a, _, rfl⟩ := List.mem_map.mp h1
    obtain ⟨b, _, rfl⟩ := List.mem_map.mp h2
    exact DatumOrd.alike a b
  · intro d h1
    obtain ⟨a, _, rfl⟩ := List.mem_map.mp h1
    exact Nat.le_trans (Datum.depth_le a) hd
  · intro ys es p h1 h2 h3 h4 h5
    obtain ⟨es', p1, p2⟩ := perm_map_ex (f := fun a : α => Datum.toD a) h2 rfl
    subst p2
    refine q ys es' p p1 ?_ h4 h5
    rw [List.pairwise_map] at h3
    refine h3.imp fun {a b} h => ?_
    rw [← DatumOrd.lt_eq b a]
    exact h
/-! ### isinstance(x, T), x a T -/
def rIsOk (K : PySem.W.Frag) : List V → Hp → VK → Prop := fun xs H Q => ∃ (x : V) (T : String), xs = [x, .ty T] ∧ TyX K H x (.type T) ∧ Q (.bl true) H
theorem call_isOk : CallR X (.builtin "isinstance") (rIsOk X.K) := by
  intro pins s σ H xs us Q I r h
  obtain ⟨x, T, rfl, t, q⟩ := h
  refine call_isi pins s σ H _ us Q I r ⟨x, .ty T, .type T, .type T, true, rfl, .ty T, t, kit_ty ?_, q⟩
  unfold kitB
  rw [if_pos (by simp)]
theorem ty_sqt {K : PySem.W.Frag} {H : Hp} {a : Addr} {xs : List V} (h : SqT K H a xs) : TyX K H (.ref a) (.type "tuple") := by
  rcases h with h | ⟨o, its, n, h1, h2, _⟩
  · rcases h with h | ⟨o, h⟩
    · exact .base (.tup h)
    · exact .fTuple h
  · exact .kTuple h1 h2
theorem ty_str {K : PySem.W.Frag} {H : Hp} {x : Str} : TyX K H (.str x) (.type "str") := .base (.str x)
end
/-! ### walks -/
section
variable {K : PySem.W.Frag} {a b : Addr} {xs ys : List V}
theorem walk_zipT {n : Nat} (hn : n = min xs.length ys.length) : Walk (RZ.ItzT K a b) n (fun H => SqT K H a xs ∧ SqT K H b ys) (YPair (fun i => xs[i]?) (fun i => ys[i]?)) := by
  subst hn
  refine ⟨fun i _ hi q => ?_, fun _ q => ⟨xs, ys, q.1, q.2, by omega⟩, fun i H v H' _ q y => ?_⟩
  · have h1 : i < xs.length := by omega
    have h2 : i < ys.length := by omega
    exact ⟨xs, ys, xs[i], ys[i], q.1, q.2, by simp [h1], by simp [h2]⟩
  · obtain ⟨T, x, z, h1, h2, h3, h4, h5⟩ := y
    exact ⟨T, x, z, h1, h2, h3, h4 xs q.1, h5 ys q.2⟩
end
section
variable {J : It} {n : Nat} {G : Hp → Prop} {Y : Nat → Hp → V → Hp → Prop}
/-- a dict comprehension over a walk -/
theorem dc_it (w : Walk J n G Y) {g : TG} {tt : TT} {tk tv : TE} {vs : List Nat} {σ : L2.St} {H1 : Hp} {D : Addr} {Qd : Hp → Prop} (Pv : Nat → Hp → Prop) (h0 : Pv 0 (upd H1 D (.dK []))) (hG : ∀ i H, i ≤ n → Pv i H → G H)
    (hs : ∀ i x H H', i < n → Pv i H → Y i H x H' → g x (wipe σ vs) H' fun σ2 H2 => wipe σ2 vs = wipe σ vs ∧ tt σ2 H2 fun b H3 =>
      if b = true then tk σ2 H3 fun y H4 => tv σ2 H4 fun z H5 => ∃ kvs k, y = kV k ∧ H5 D = some (.dK kvs) ∧ kvs.length < sizeLine ∧ Pv (i + 1) (upd H5 D (.dK (putK kvs k z))) else Pv (i + 1) H3) (hd : ∀ H, Pv n H → Qd H) :
    ∃ W : Nat → Nat → Hp → Prop, (∃ m, W 0 m (upd H1 D (.dK []))) ∧ ∀ i m H, W i m H →
      (J.stop i H ∧ Qd H) ∨ (J.go i H ∧ ∃ Nx : Hp → Prop, (∀ H', Nx H' → ∃ m', m' < m ∧ W (i + 1) m' H') ∧ ∀ x H', J.yld i H x H' → g x (wipe σ vs) H' fun σ2 H2 => wipe σ2 vs = wipe σ vs ∧ tt σ2 H2 fun b H3 =>
        if b = true then tk σ2 H3 fun y H4 => tv σ2 H4 fun z H5 => ∃ kvs k, y = kV k ∧ H5 D = some (.dK kvs) ∧ kvs.length < sizeLine ∧ Nx (upd H5 D (.dK (putK kvs k z))) else Nx H3) := by
  refine ⟨fun i m H => m = n - i ∧ i ≤ n ∧ Pv i H, ⟨n, by simp, Nat.zero_le _, h0⟩, ?_⟩
  rintro i m H ⟨rfl, hi, p⟩
  have q := hG i H hi p
  by_cases hlt : i < n
  · refine .inr ⟨w.goes i H hlt q, Pv (i + 1), fun H' p' => ⟨n - (i + 1), by omega, rfl, hlt, p'⟩, fun x H' y => hs i x H H' hlt p (w.yields i H x H' hlt q y)⟩
  · have e : i = n := by omega
    subst e
    exact .inl ⟨w.stops H q, hd H p⟩
end
/-! ### a new list growing while all else stays -/
section
variable {K : PySem.W.Frag} {S : List Addr} {H0 H H' : Hp} {D : Addr}
theorem kp_sql {A : Hp} {a : Addr} {xs : List V} (k : Same A H) (h : SqL K A a xs) : SqL K H a xs := Same.sql k h
end
end CB
set_option Elab.async false
set_option linter.all false
set_option maxRecDepth 100000
set_option maxHeartbeats 4000000
/-! the rules with the frozen part told from outside (within a comprehension the reading may not name the block) -/
namespace CB
open PySem PySem.Spec
open PyProof.Rows L2
open PySem.W (Datum Tup DatumOrd)
section
variable {X : Cx} (K : PySem.W.Frag)
theorem k_eqX (α : Type) [DecidableEq α] [Datum α] (hu : X.A.units + 64 < cLine) (hd : Datum.depth α ≤ 50 := by decide) (hK : X.K = K := by rfl) : OpR X (compareOp .Eq) (rEqX α K fun b => b) := by subst hK; exact op_eqX α hu hd
theorem k_neX (α : Type) [DecidableEq α] [Datum α] (hu : X.A.units + 64 < cLine) (hd : Datum.depth α ≤ 50 := by decide) (hK : X.K = K := by rfl) : OpR X (compareOp .NotEq) (rEqX α K fun b => !b) := by subst hK; exact op_neX α hu hd
theorem k_inX (α : Type) [DecidableEq α] [Datum α] (hu : X.A.units + 64 < cLine) (hd : Datum.depth α ≤ 50 := by decide) (hK : X.K = K := by rfl) : OpR X (compareOp .In) (rInX α K fun b => b) := by subst hK; exact op_inX α hu hd
theorem k_notInX (α : Type) [DecidableEq α] [Datum α] (hu : X.A.units + 64 < cLine) (hd : Datum.depth α ≤ 50 := by decide) (hK : X.K = K := by rfl) : OpR X (compareOp .NotIn) (rInX α K fun b => !b) := by subst hK; exact op_notInX α hu hd
theorem k_inSeq (hK : X.K = K := by rfl) : OpR X (compareOp .In) (rIn K false) := by subst hK; exact op_in_seq
theorem k_notInSeq (hK : X.K = K := by rfl) : OpR X (compareOp .NotIn) (rIn K true) := by subst hK; exact op_notIn_seq
theorem k_ltX (α : Type) [DecidableEq α] [DatumOrd α] (hu : X.A.units + 64 < cLine) (hd : Datum.depth α ≤ 50 := by decide) (hK : X.K = K := by rfl) : OpR X (compareOp .Lt) (rLtX α K) := by subst hK; exact op_ltX α hu hd
theorem k_sortX (α : Type) [DecidableEq α] [DatumOrd α] (hu : X.A.units + 64 < cLine) (hd : Datum.depth α ≤ 20 := by decide) (hK : X.K = K := by rfl) : CallR X (.builtin "sorted") (rSortX α K) := by subst hK; exact cr_sortX α hu hd
theorem k_sortD (hu : X.A.units + 64 < cLine) (hK : X.K = K := by rfl) : CallR X (.builtin "sorted") (rSortD K) := by subst hK; exact cr_sortD hu
theorem k_isOk (hK : X.K = K := by rfl) : CallR X (.builtin "isinstance") (rIsOk K) := by subst hK; exact call_isOk
theorem k_all (hc : X.calm = true := by rfl) (hK : X.K = K := by rfl) : CallR X (.builtin "all") (rAll K) := by subst hK; exact cr_all hc
theorem k_any (hc : X.calm = true := by rfl) (hK : X.K = K := by rfl) : CallR X (.builtin "any") (rAny K) := by subst hK; exact cr_any hc
def rLenK (K : PySem.W.Frag) : List V → Hp → VK → Prop := fun xs H Q => ∃ p ys, xs = [.ref p] ∧ (SqL K H p ys ∨ SqT K H p ys) ∧ Q (.int ys.length) H
theorem k_len (hK : X.K = K := by rfl) : CallR X (.builtin "len") (rLenK K) := by subst hK; exact call_len_seq
def rLstK (K : PySem.W.Frag) : List V → Hp → VK → Prop := fun xs H Q => ∃ p ys, xs = [.ref p] ∧ (SqL K H p ys ∨ SqT K H p ys) ∧ ∀ l, H l = none → Q (.ref l) (upd H l (.lst ys))
theorem k_list (hK : X.K = K := by rfl) : CallR X (.type "list") (rLstK K) := by subst hK; exact call_list_of
def rTupK (K : PySem.W.Frag) : List V → Hp → VK → Prop := fun xs H Q => ∃ p ys, xs = [.ref p] ∧ ((SqL K H p ys ∧ ∀ l, H l = none → Q (.ref l) (upd H l (.tup ys))) ∨ (SqT K H p ys ∧ Q (.ref p) H))
theorem k_tuple (hK : X.K = K := by rfl) : CallR X (.type "tuple") (rTupK K) := by subst hK; exact call_tuple_of
theorem k_ixT (hK : X.K = K := by rfl) : IxR X (rIxT K) := by subst hK; exact ix_tup
theorem k_ixL (hK : X.K = K := by rfl) : IxR X (rIxL K) := by subst hK; exact ix_list
theorem k_ixS (hK : X.K = K := by rfl) : IxR X (rIx K) := by subst hK; exact ix_seq
theorem k_slL (hK : X.K = K := by rfl) : SlR X (rSlL K) := by subst hK; exact sl_list
theorem k_slT (hK : X.K = K := by rfl) : SlR X (rSlA K) := by subst hK; exact sl_tupA
theorem k_revL {e : Expr} {te : TE} {k : Nat} {p1 p2 p3 pos : Pos} (he : PE X e te) (hK : X.K = K := by rfl) : PE X (.Subscript e (.Slice none none (some (.UnaryOp .USub (.Constant (.int 1) k p1) p2)) p3) pos) (tRevL K te) := by subst hK; exact pe_revL he
theorem k_piL {tg l : Expr} {tl : TE} (hl : PE X l tl) (hK : X.K = K := by rfl) : PI X tg l (iList K tl) := by subst hK; exact pi_list hl
theorem k_piT {tg l : Expr} {tl : TE} (hl : PE X l tl) (hK : X.K = K := by rfl) : PI X tg l (iTup K tl) := by subst hK; exact pi_tup hl
theorem k_zipA {e e2 : Expr} {ta : TA} {p pos tpos : Pos} {elts : List Expr} {kk : Nat} (hg : Gl X "zip") (hm : X.mg "zip" = none) (ha : PA X [e, e2] ta)
    (hs : starEach [e, e2] X.env = (false, eval e X.env) :: starEach [e2] X.env := by rfl) (hpl : (backTo pos (starEach [e2] X.env)).any (·.1) = false := by rfl) (hK : X.K = K := by rfl) :
    PI X (.Tuple elts kk tpos) (.Call (.Name "zip" p) [e, e2] [] pos) (RZ.iZipA K ta) := by subst hK; exact RZ.pi_zipA hg hm ha hs hpl
theorem k_enumT {e : Expr} {ta : TA} {p pos tpos : Pos} {elts : List Expr} {kk : Nat} (hm : X.mg "enumerate" = none)
    (ha : PA X [e] ta) (hg : Gl X "enumerate" := by rfl) (hs : starEach [e] X.env = [(false, eval e X.env)] := by rfl) (hK : X.K = K := by rfl) :
    PI X (.Tuple elts kk tpos) (.Call (.Name "enumerate" p) [e] [] pos) (iEnumT K ta) := by subst hK; exact pi_enumT hm ha hg hs
theorem k_tup {es : List Expr} {k : Nat} {t : TGs} {n : Nat} {pos : Pos} (hc : X.calm = true) (h : PGs X es t)
    (hn : (assignEach es X.env).length = n := by rfl) (hst : (assignEach es X.env).findIdx? (·.1) = none := by rfl) (hK : X.K = K := by rfl) : PG X (.Tuple es k pos) (gTup K n t) := by subst hK; exact pg_tup hc h hn hst
theorem k_lenSetT {a : Expr} {ta : TE} {p p2 q pos : Pos} (hm : X.mg "len" = none) (hm2 : X.mg "set" = none) (ha : PE X a ta)
    (hg : Gl X "len" := by rfl) (hg2 : Gl X "set" := by rfl) (hc : X.calm = true := by rfl)
    (na : starEach [a] X.env = (false, eval a X.env) :: starEach [] X.env := by rfl) (hK : X.K = K := by rfl) :
    PE X (.Call (.Name "len" p) [.Call (.Name "set" p2) [a] [] q] [] pos) (tLenSetT K ta) := by subst hK; exact pe_lenSetT hm hm2 ha hg hg2 hc na
def rDicK (K : PySem.W.Frag) : List V → Hp → VK → Prop := fun xs H Q => ∃ (a : Addr) (ps : List Addr) (kvs : List (Key × V)), xs = [.ref a] ∧ SqL K H a (ps.map V.ref) ∧ Paired (fun p kv => SqT K H p [kV kv.1, kv.2]) ps kvs ∧
    ∀ p, H p = none → Q (.ref p) (upd H p (.dK (mergeK [] kvs)))
theorem k_dict (hc : X.calm = true := by rfl) (hK : X.K = K := by rfl) : CallR X (.type "dict") (rDicK K) := by subst hK; exact call_dictP hc
theorem k_bm {o e : Expr} {es : List Expr} {to : TE} {t : TA} {name : Str} {apos cpos : Pos} {T id : String} {r : V → List V → Hp → VK → Prop}
    (pa : PlainAttrs T) (slot : Slot T name id) (hty : typeOf (.builtin id) = pure (.type "method_descriptor")) (hm : MtR X id r) (ho : PE X o to) (ha : PA X (e :: es) t)
    (hbase : attributeBase o name X.env (eval o X.env) = eval o X.env := by rfl)
    (hfew : ((backTo cpos (starEach (e :: es) X.env)).all (fun x => !x.1) && (backToKw cpos (keywordEach [] X.env)).all (fun x => x.1.isSome)
      && decide ((e :: es).length + ([] : List Keyword).length + (if ([] : List Keyword).isEmpty then 0 else 1) < 30)) = true := by rfl)
    (hline : (apos.endLine == cpos.line) = true := by rfl) (hs : starEach (e :: es) X.env = (false, eval e X.env) :: starEach es X.env := by rfl) (hplain : (backTo cpos (starEach es X.env)).any (·.1) = false := by rfl) (hK : X.K = K := by rfl) :
    PE X (.Call (.Attribute o name apos) (e :: es) [] cpos) (tBM K T r to t) := by subst hK; exact pe_bm pa slot hty hm ho ha hbase hfew hline hs hplain
theorem k_removeX (α : Type) [DecidableEq α] [Datum α] (hu : X.A.units + 64 < cLine) (hdp : Datum.depth α ≤ 50 := by decide) (hK : X.K = K := by rfl) : MtM X "list.remove" (rRemX α K) := by subst hK; exact mt_removeX α hu hdp
theorem k_getL (hK : X.K = K := by rfl) : PGet X (rGetL K) := by subst hK; exact get_list
theorem k_sl {o : Expr} {f : Str} {pos : Pos} {ta : TE} (he : PE X o ta) (hb : attributeBase o f X.env (eval o X.env) = eval o X.env := by rfl) (hK : X.K = K := by rfl) : PE X (.Attribute o f pos) (SlX.tSl K ta f) := by subst hK; exact SlX.pe_sl he hb
theorem k_eqQ (hu : X.A.units + 64 < cLine) (hK : X.K = K := by rfl) : OpR X (compareOp .Eq) (rEqQ K) := by subst hK; exact op_eqQ hu
theorem k_reprQ (hu : X.A.units + 64 < cLine) (hg : X.A.guards = some []) (hK : X.K = K := by rfl) : CallR X (.builtin "repr") (rRepr K) := by subst hK; exact call_reprQ hu hg
end
end CB
set_option Elab.async false
set_option linter.all false
set_option maxRecDepth 100000
set_option maxHeartbeats 4000000
namespace CB
open PySem PySem.Spec
open PyProof.Rows L2
section
variable {X : Cx}
/-- name = {k: v for ..} on one line, the name a local -/
theorem ps_setDc {i : Nat} {y : Str} {py : Pos} {kx vx tg iter : Expr} {ifs : List Expr} {scope : Scope} {own : List (Str × Nat)} {pos spos : Pos} {wi : TI} {g : TG} {tt : TT} {tk tv : TE} (hc : X.calm = true) (hN : X.N.Nodup) (hy : X.N[i]? = some y) (hyl : X.env.scope.names.lookup y = some .local)
    (hsw : swapsWith (.DictComp kx vx [⟨tg, iter, ifs, 0⟩] scope pos) (some (.Name y py)) spos.line X.env = pure true) (hi : PI X tg iter wi) (ok : BlkOk X.N X.env.scope scope own)
    (hg : ∀ (s : Shared) (H : Hp) (C : Addr) (cl : List (Str × Addr)) (fp : List Addr), PG (X.blk s H scope (compEnvC scope cl C X.env) fp) tg g) (ht : ∀ (s : Shared) (H : Hp) (C : Addr) (cl : List (Str × Addr)) (fp : List Addr), PTs (X.blk s H scope (compEnvC scope cl C X.env) fp) ifs tt)
    (hk : ∀ (s : Shared) (H : Hp) (C : Addr) (cl : List (Str × Addr)) (fp : List Addr), PE (X.blk s H scope (compEnvC scope cl C X.env) fp) kx tk)
    (he : ∀ (s : Shared) (H : Hp) (C : Addr) (cl : List (Str × Addr)) (fp : List Addr), PE (X.blk s H scope (compEnvC scope cl C X.env) fp) vx tv) (hs : ∀ x, foldedSetIterable iter X.env x = pure x := by intro _; rfl) :
    PS X (.Assign [.Name y py] (.DictComp kx vx [⟨tg, iter, ifs, 0⟩] scope pos) spos) (tAsg (tDc wi g tt tk tv (own.map (·.2))) (gName i)) := by
  refine ⟨fun pins s σ H D I h => ?_⟩
  rw [exec_Assign_Name_used _ _ _ _ hsw]
  refine wpAny_bind (wpAny_standAt (wpAny_bind ?_))
  show wpAny _ X.A (do let _ ← comprehension (.DictComp kx vx [⟨tg, iter, ifs, 0⟩] scope pos) scope X.env (firstIterPos [⟨tg, iter, ifs, 0⟩] pos) newDict false (eval iter X.env) (some (assign (.Name y py) X.env))) _ _ s
  have h : tDc wi g tt tk tv (own.map (·.2)) σ H (fun x H1 => gName i x σ H1 D.nx) := h
  refine wpAny_bind (thn (dc_core (Qf := fun _ s' => SP X pins D .next s') hc hN I hi ok hg ht hk he hs h fun L C s' m H' I' q hn f => ?_) fun _ s' hq => wpAny_pure (wpAny_pure hq))
  show wpAny _ _ (assign (.Name y py) X.env (.ref L)) _ _ _
  refine wpAny_assign_Name (store_ok2 (v := V.ref L) I' hN hy (.inl hyl) rfl (fun s2 I2 ⟨a, sb, ha⟩ => ?_) (.inr hyl))
  obtain ⟨f0, f1, f2, f3, f4, f5⟩ := f
  have haC : C ≠ a := by
    rcases ha with z | z
    · rw [z]; exact f1
    · exact fun e => f4 y a z e.symm
  refine ⟨m, hn.sameBut sb haC, fun h3 sb3 => ?_⟩
  exact ⟨_, H', I2.turned (t' := s2.toks) (fun b o hb e => (sb3.2 b hb).trans e) f0 f1 f3 f4 f5, q⟩
end
end CB
set_option Elab.async false
set_option linter.all false
set_option maxRecDepth 100000
set_option maxHeartbeats 4000000
namespace CB
open PySem PySem.Spec
open PyProof.Rows L2
open PySem.W (Datum Tup)
section
variable {P : Program} {w : World} {K : PySem.W.Frag} {mg : Str → Option Value} {base : Heap}
/-! ### the bag of draws -/
/-- b is the bag, c its list of cells -/
def Bg (H : Hp) (b c : Addr) : Prop := (∃ x y z : Int, H b = some (.lst [.int x, .int y, .int z, .ref c]) ∧ 0 ≤ x ∧ 0 ≤ y ∧ y < 2147483647 ∧ 0 ≤ z) ∧
  ∃ cs : List Int, H c = some (.lst (cs.map V.int)) ∧ cs.length ≤ 63 ∧ ∀ n ∈ cs, 0 ≤ n
theorem Bg.bc {H : Hp} {b c : Addr} (h : Bg H b c) : c ≠ b := by
  obtain ⟨⟨x, y, z, h1, _⟩, cs, h2, _⟩ := h
  intro e
  rw [e, h1] at h2
  have := congrArg (fun o : Option HO => match o with | some (.lst xs) => xs | _ => []) h2
  match cs, this with
  | [_, _, _, d], t => simp at t
theorem Bg.ne {H : Hp} {b c p : Addr} (h : Bg H b c) (n : H p = none) : p ≠ b := by
  obtain ⟨⟨x, y, z, h1, _⟩, _⟩ := h
  exact (ne_of_none h1 n).symm
theorem Bg.nec {H : Hp} {b c p : Addr} (h : Bg H b c) (n : H p = none) : p ≠ c := by
  obtain ⟨_, cs, h2, _⟩ := h
  exact (ne_of_none h2 n).symm
/-- what leaves the bag and its cells alone -/
theorem Bg.kp {H H' : Hp} {S : List Addr} {b c : Addr} (h : Bg H b c) (k : Kp S H H') (n1 : b ∉ S) (n2 : c ∉ S) : Bg H' b c := by
  obtain ⟨⟨x, y, z, h1, r⟩, cs, h2, r2⟩ := h
  exact ⟨⟨x, y, z, k _ _ n1 h1, r⟩, cs, k _ _ n2 h2, r2⟩
theorem Bg.new {H : Hp} {b c p : Addr} {o : HO} (h : Bg H b c) (n : H p = none) : Bg (upd H p o) b c :=
  h.kp (S := []) (Kp.new n) (by simp) (by simp)
theorem Bg.wr {H : Hp} {b c p : Addr} {o : HO} (h : Bg H b c) (n1 : p ≠ b) (n2 : p ≠ c) : Bg (upd H p o) b c :=
  h.kp (S := [p]) (Kp.wr (by simp)) (by simp [Ne.symm n1]) (by simp [Ne.symm n2])
def spTake : Sp := fun vs H Q _ => ∃ (b c : Addr) (n : Int), vs = [.ref b, .int n] ∧ Bg H b c ∧ 0 < n ∧ n < 1073741824 ∧
  ∀ r H', 0 ≤ r → r < n → Kp [b] H H' → Bg H' b c → Q (.int r) H'
abbrev s_law_take : Stmt := topS 33
abbrev p_law_take : List Str := ["_law_bag_here", "_law_many"]
theorem sc_law_take : FnScope ["_law_bag_here", "_law_many", "_law_cell", "_law_stirred", "_law_value", "_law_begin", "_law_second"] ["_law_bag_here", "_law_many"] (defScope s_law_take) := ⟨rfl, rfl, rfl, by decide +kernel, rfl, by decide +kernel, by decide +kernel⟩
theorem c_take (D : Def K mg "_law_take" s_law_take p_law_take) (B : Blt mg) : Cal P w K mg base "_law_take" p_law_take 1 spTake := by
  refine D.cal sc_law_take (fun vs H Q E h => ?_) (fun f cdv A outer s H vs Q E hr h => ?_)
  · obtain ⟨b, c, n, rfl, _⟩ := h; rfl
  · obtain ⟨b, c, n, rfl, hb, n0, n1, q⟩ := h
    refine ⟨_, (pss_cons (ps_if (pt_cmpR op_eq (pe_ix (k_ixL K) (pv 0) pe_int (fun _ _ => rfl)) pe_int (nomark _))
  (pss_cons (ps_set (i := 2) sc_law_take.nd rfl (.inl rfl) (pe_ix (k_ixL K) (pe_op op_cat (pe_slice (k_slL K) (pe_ix (k_ixL K) (pv 0) pe_int (fun _ _ => rfl)) (po_some (pe_ix (k_ixL K) (pv 0) pe_int (fun _ _ => rfl))) po_none) (pe_lst (pa_cons pe_int pa_nil))) pe_int (fun _ _ => rfl)))
  (pss_cons (ps_augS (pv 0) pe_int (k_getL K) pe_int ip_add set_list)
  (pss_cons (ps_if (pt_cmpR op_ge (pv 2) (pe_op op_pow pe_int pe_int) (nomark _))
  (pss_one (ps_asg (pv 2) (pg_sub (pv 0) pe_int set_list)))
  pss_nil)
  (pss_by (fun D σ H1 => ∃ j y3, σ = [some (.ref b), some (.int n), some (.int j), y3, none, none, none] ∧ Bg H1 b c ∧ (∀ y2 y3 H2, Kp [b] H1 H2 → Bg H2 b c → D.nx [some (.ref b), some (.int n), y2, y3, none, none, none] H2))
  (pss_cons (ps_set (i := 3) sc_law_take.nd rfl (.inl rfl) (pe_op op_add (pe_op op_add (pe_op op_mul (pe_ix (k_ixL K) (pv 0) pe_int (fun _ _ => rfl)) pe_int) (pe_op op_mod (pe_callTy call_int1 (by rfl) B.int (by decide +kernel) (pa_cons (pv 2) pa_nil)) pe_int)) (pe_op op_mul pe_int (pe_ix (k_ixL K) (pv 0) pe_int (fun _ _ => rfl)))))
  (pss_one (ps_asg (pe_op op_mod (pe_callTy call_int1 (by rfl) B.int (by decide +kernel) (pa_cons (pv 3) pa_nil)) pe_int) (pg_sub (pv 0) pe_int set_list)))) ?cut164))))
  pss_nil)
  (pss_by (fun D σ H1 => ∃ y2 y3, σ = [some (.ref b), some (.int n), y2, y3, none, none, none] ∧ Kp [b] H H1 ∧ Bg H1 b c ∧ (∀ r H2, 0 ≤ r → r < n → Kp [b] H1 H2 → Bg H2 b c → D.rt (.int r) H2))
  (pss_cons (ps_if (pt_cmpR op_gt (pe_ix (k_ixL K) (pv 0) pe_int (fun _ _ => rfl)) pe_int (nomark _))
  (pss_cons (ps_set (i := 4) sc_law_take.nd rfl (.inl rfl) (pe_op op_mod (pe_callTy call_int1 (by rfl) B.int (by decide +kernel) (pa_cons (pe_ix (k_ixL K) (pv 0) pe_int (fun _ _ => rfl)) pa_nil)) (pv 1)))
  (pss_cons (ps_asg (pe_op op_fdiv (pe_callTy call_int1 (by rfl) B.int (by decide +kernel) (pa_cons (pe_ix (k_ixL K) (pv 0) pe_int (fun _ _ => rfl)) pa_nil)) (pv 1)) (pg_sub (pv 0) pe_int set_list))
  (pss_one (ps_ret (pv 4)))))
  pss_nil)
  (pss_cons (ps_set (i := 5) sc_law_take.nd rfl (.inl rfl) (pe_op op_mod (pe_callTy call_int1 (by rfl) B.int (by decide +kernel) (pa_cons (pe_op op_mul (pe_op op_add (pe_ix (k_ixL K) (pv 0) pe_int (fun _ _ => rfl)) pe_int) pe_int) pa_nil)) pe_int))
  (pss_cons (ps_set (i := 6) sc_law_take.nd rfl (.inl rfl) (pe_op op_mod (pe_callTy call_int1 (by rfl) B.int (by decide +kernel) (pa_cons (pe_op op_mul (pe_op op_mod (pe_callTy call_int1 (by rfl) B.int (by decide +kernel) (pa_cons (pe_op op_mul (pv 5) (pv 5)) pa_nil)) pe_int) pe_int) pa_nil)) pe_int))
  (pss_one (ps_ret (pe_op op_mod (pe_callTy call_int1 (by rfl) B.int (by decide +kernel) (pa_cons (pe_op op_fdiv (pv 6) pe_int) pa_nil)) (pv 1))))))) ?cut166)), ?_⟩
    case cut164 =>
      rintro D σ H1 ⟨j, y3, rfl, hb1, q1⟩
      have hb1' := hb1
      obtain ⟨⟨x, y, z, e1, x0, y0, y1, z0⟩, cs, e2, cl, c0⟩ := hb1
      have hB := sql_of (K := K) e1
      refine ⟨.ref b, rfl, b, _, 1, .int y, rfl, rfl, hB, atI_nat (j := 1) rfl, y, 48271, rfl, rfl, .inr (by decide), .int j, rfl, .inl ⟨j, rfl, _, 2147483647, rfl, rfl, (by decide : (0 : Int) < 2147483647), ?_⟩⟩
      refine ⟨_, _, rfl, rfl, .ref b, rfl, b, _, 2, .int z, rfl, rfl, hB, atI_nat (j := 2) rfl, 7919, z, rfl, rfl, .inl (by decide), _, _, rfl, rfl, ?_⟩
      refine ⟨_, rfl, .inl ⟨_, rfl, _, 2147483647, rfl, rfl, (by decide : (0 : Int) < 2147483647), .ref b, rfl, b, _, 1, 1, rfl, rfl, e1, rfl, ?_⟩⟩
      refine q1 _ _ _ (Kp.wr (by simp)) ⟨⟨x, _, z, upd_same, x0, Int.emod_nonneg _ (by decide), Int.emod_lt_of_pos _ (by decide), z0⟩, cs, ?_, cl, c0⟩
      rw [upd_ne hb1'.bc]; exact e2
    case cut166 =>
      rintro D σ H1 ⟨y2, y3, rfl, k1, hb1, q1⟩
      have hb1' := hb1
      obtain ⟨⟨x, y, z, e1, x0, y0, y1, z0⟩, cs, e2, cl, c0⟩ := hb1
      have hB := sql_of (K := K) e1
      refine ⟨.ref b, rfl, b, _, 0, .int x, rfl, rfl, hB, atI_nat (j := 0) rfl, x, 0, rfl, rfl, _, rfl, ite2 (fun hx => ?_) (fun _ => ?_)⟩
      · refine ⟨.ref b, rfl, b, _, 0, .int x, rfl, rfl, hB, atI_nat (j := 0) rfl, .inl ⟨x, rfl, .int n, rfl, x, n, rfl, rfl, n0, ?_⟩⟩
        refine ⟨.ref b, rfl, b, _, 0, .int x, rfl, rfl, hB, atI_nat (j := 0) rfl, .inl ⟨x, rfl, .int n, rfl, x, n, rfl, rfl, ⟨n0, n1⟩, ?_⟩⟩
        refine ⟨.ref b, rfl, b, _, 0, 0, rfl, rfl, e1, rfl, ?_⟩
        refine ⟨_, rfl, q1 _ _ (Int.emod_nonneg _ (by omega)) (Int.emod_lt_of_pos _ n0) (Kp.wr (by simp)) ?_⟩
        refine ⟨⟨x / n, y, z, upd_same, Int.ediv_nonneg x0 (by omega), y0, y1, z0⟩, cs, ?_, cl, c0⟩
        rw [upd_ne hb1'.bc]; exact e2
      · refine ⟨.ref b, rfl, b, _, 1, .int y, rfl, rfl, hB, atI_nat (j := 1) rfl, y, 1, rfl, rfl, y + 1, 39373, rfl, rfl, .inr (by decide), .inl ⟨_, rfl, _, 1000000007, rfl, rfl, (by decide : (0 : Int) < 1000000007), ?_⟩⟩
        have m1 := Int.emod_nonneg ((y + 1) * 39373) (show (1000000007 : Int) ≠ 0 by decide)
        have m2 := Int.emod_lt_of_pos ((y + 1) * 39373) (show (0 : Int) < 1000000007 by decide)
        refine ⟨_, rfl, _, rfl, _, _, rfl, rfl, .inl ⟨by omega, by omega⟩, .inl ⟨_, rfl, _, 998244353, rfl, rfl, (by decide : (0 : Int) < 998244353), ?_⟩⟩
        refine ⟨_, 30011, rfl, rfl, .inr (by decide), .inl ⟨_, rfl, _, 998244353, rfl, rfl, (by decide : (0 : Int) < 998244353), ?_⟩⟩
        refine ⟨_, rfl, _, 7, rfl, rfl, ⟨by decide, by decide⟩, .inl ⟨_, rfl, .int n, rfl, _, n, rfl, rfl, n0, ?_⟩⟩
        exact q1 _ _ (Int.emod_nonneg _ (by omega)) (Int.emod_lt_of_pos _ n0) (Kp.refl _ _) hb1'
    have hb' := hb
    obtain ⟨⟨x, y, z, e1, x0, y0, y1, z0⟩, cs, e2, cl, c0⟩ := hb
    have hB := sql_of (K := K) e1
    refine ⟨.ref b, rfl, b, _, 0, .int x, rfl, rfl, hB, atI_nat (j := 0) rfl, rfl, _, rfl, ite2 (fun hx => ?_) (fun _ => ?_)⟩
    · -- a cell
      refine ⟨.ref b, rfl, b, _, 3, .ref c, rfl, rfl, hB, atI_nat (j := 3) rfl, .ref b, rfl, b, _, 2, .int z, rfl, rfl, hB, atI_nat (j := 2) rfl, z, rfl, c, cs.map V.int, rfl, sql_of e2, fun p np => ?_⟩
      refine ⟨by decide, fun p2 np2 => ?_⟩
      have n12 : p ≠ p2 := fun e => (up_none np2).1 e.symm
      refine ⟨p, p2, cutV (cs.map V.int) (some z) none, [.int 0], rfl, rfl, by rw [upd_ne n12]; exact upd_same, upd_same, ?_, fun p3 np3 => ?_⟩
      · show (cutV (cs.map V.int) (some z) none).length + 1 ≤ sizeLine
        have := cutV_length (cs.map V.int) (some z) none
        rw [List.length_map] at this
        exact Nat.le_of_lt (small1000 (by omega))
      · obtain ⟨j, hj0, hj⟩ : ∃ j : Int, 0 ≤ j ∧ (cutV (cs.map V.int) (some z) none ++ [.int 0])[0]? = some (.int j) := by
          cases hc : cutV (cs.map V.int) (some z) none with
          | nil => exact ⟨0, by decide, rfl⟩
          | cons v vs =>
            have hm : v ∈ cutV (cs.map V.int) (some z) none := by rw [hc]; simp
            unfold cutV at hm
            have hm2 := List.mem_of_mem_drop (List.mem_of_mem_take hm)
            obtain ⟨i, hi, rfl⟩ := List.mem_map.mp hm2
            exact ⟨i, c0 i hi, rfl⟩
        refine ⟨p3, _, 0, .int j, rfl, rfl, sql_of upd_same, atI_nat (j := 0) hj, ?_⟩
        have kp : Kp [] H (upd (upd (upd H p (.lst (cutV (cs.map V.int) (some z) none))) p2 (.lst [.int 0])) p3 (.lst (cutV (cs.map V.int) (some z) none ++ [.int 0]))) :=
          ((Kp.new np).trans (Kp.new np2)).trans (Kp.new np3)
        generalize (upd (upd (upd H p (.lst (cutV (cs.map V.int) (some z) none))) p2 (.lst [.int 0])) p3 (.lst (cutV (cs.map V.int) (some z) none ++ [.int 0]))) = H1 at kp
        have f1 := kp _ _ (by simp) e1
        have f2 := kp _ _ (by simp) e2
        have hB1 := sql_of (K := K) f1
        -- bag[2] += 1
        refine ⟨.ref b, rfl, b, _, 2, .int z, rfl, rfl, hB1, by decide, rfl, z, 1, rfl, rfl, b, _, 2, 2, rfl, rfl, f1, rfl, ?_⟩
        have g1 : Bg (upd H1 b (.lst [.int x, .int y, .int (z + 1), .ref c])) b c :=
          ⟨⟨x, y, z + 1, upd_same, x0, y0, y1, by omega⟩, cs, by rw [upd_ne hb'.bc]; exact f2, cl, c0⟩
        have k1 : Kp [b] H (upd H1 b (.lst [.int x, .int y, .int (z + 1), .ref c])) := (kp.mono (by simp)).trans (Kp.wr (by simp))
        -- if cell >= 10 ** 18
        refine ⟨.int j, rfl, 10, 18, rfl, rfl, ⟨by decide, by decide, by decide⟩, j, _, rfl, rfl, _, rfl, ite2 (fun hx => ?_) (fun _ => ?_)⟩
        · refine ⟨.int j, rfl, .ref b, rfl, b, _, 0, 0, rfl, rfl, upd_same, rfl, ?_⟩
          refine ⟨j, none, rfl, ⟨⟨j, y, z + 1, upd_same, hj0, y0, y1, by omega⟩, cs, ?_, cl, c0⟩, fun y2 y3 H2 k2 hb2 => ⟨y2, y3, rfl, (k1.trans (Kp.wr (by simp))).trans k2, hb2, fun r H3 r0 r1 k3 b3 => q r H3 r0 r1 (((k1.trans (Kp.wr (by simp))).trans k2).trans k3) b3⟩⟩
          rw [upd_ne hb'.bc, upd_ne hb'.bc]; exact f2
        · exact ⟨j, none, rfl, g1, fun y2 y3 H2 k2 hb2 => ⟨y2, y3, rfl, k1.trans k2, hb2, fun r H3 r0 r1 k3 b3 => q r H3 r0 r1 ((k1.trans k2).trans k3) b3⟩⟩
    · exact ⟨none, none, rfl, Kp.refl _ _, hb', q⟩
/-! ### one of some things -/
def spOne (K : PySem.W.Frag) : Sp := fun vs H Q _ => ∃ (b c l : Addr) (xs : List V), vs = [.ref b, .ref l] ∧ Bg H b c ∧
  (SqL K (off H [b]) l xs ∨ SqT K (off H [b]) l xs) ∧ 0 < xs.length ∧ xs.length < 1073741824 ∧
  ∀ (i : Nat) v H', xs[i]? = some v → Kp [b] H H' → Bg H' b c → Q v H'
abbrev s_law_one : Stmt := topS 34
abbrev p_law_one : List Str := ["_law_bag_here", "_law_things"]
theorem sc_law_one : FnScope ["_law_bag_here", "_law_things"] ["_law_bag_here", "_law_things"] (defScope s_law_one) := ⟨rfl, rfl, rfl, by decide +kernel, rfl, by decide +kernel, by decide +kernel⟩
theorem c_one (D : Def K mg "_law_one" s_law_one p_law_one) (B : Blt mg) (C_law_take : Cal P w K mg base "_law_take" p_law_take 1 spTake) :
    Cal P w K mg base "_law_one" p_law_one 2 (spOne K) := by
  refine D.cal sc_law_one (fun vs H Q E h => ?_) (fun f cdv A outer s H vs Q E hr h => ?_)
  · obtain ⟨b, c, l, xs, rfl, _⟩ := h; rfl
  · obtain ⟨b, c, l, xs, rfl, hb, hl, n0, n1, q⟩ := h
    refine ⟨_, (pss_one (ps_ret (pe_ix (k_ixS K) (pv 1) (pe_cal C_law_take hr (pa_cons (pv 0) (pa_cons (pe_callB (k_len K) (by rfl) B.len (by decide +kernel) (pa_cons (pv 1) pa_nil)) pa_nil))) (fun _ _ => rfl)))), ?_⟩
    have hlen : SqL K H l xs ∨ SqT K H l xs := hl.imp off_sql off_sqt
    refine ⟨.ref l, rfl, .ref b, rfl, .ref l, rfl, l, xs, rfl, hlen, b, c, xs.length, rfl, hb, by omega, by omega, fun r H1 r0 r1 k1 b1 => ?_⟩
    obtain ⟨i, rfl⟩ : ∃ i : Nat, r = i := ⟨r.toNat, by omega⟩
    have hi : i < xs.length := by omega
    have e := List.getElem?_eq_getElem hi
    have hl1 := hl.imp (fun h => off_sql (Same.sql k1.off' h)) (fun h => off_sqt (Same.sqt k1.off' h))
    have done := q i _ H1 e k1 b1
    rcases hl1 with h | h
    · exact .inl ⟨l, xs, i, _, rfl, rfl, h, atI_nat e, done⟩
    · exact .inr (.inl ⟨l, xs, i, _, rfl, rfl, h, atI_nat e, done⟩)
/-! ### mixed -/
def spMixed (K : PySem.W.Frag) : Sp := fun vs H Q _ => ∃ (b c l : Addr) (xs : List V), vs = [.ref b, .ref l] ∧ Bg H b c ∧
  SqL K (off H [b]) l xs ∧ xs.length ≤ 1000 ∧
  ∀ p H' ys, H p = none → H' p = some (.lst ys) → ys.Perm xs → Kp [b] H H' → Bg H' b c → Q (.ref p) H'
abbrev s_law_mixed : Stmt := topS 35
abbrev p_law_mixed : List Str := ["_law_bag_here", "_law_things"]
theorem sc_law_mixed : FnScope ["_law_bag_here", "_law_things", "_law_found", "_law_thing"] ["_law_bag_here", "_law_things"] (defScope s_law_mixed) := ⟨rfl, rfl, rfl, by decide +kernel, rfl, by decide +kernel, by decide +kernel⟩
theorem c_mixed (D : Def K mg "_law_mixed" s_law_mixed p_law_mixed) (B : Blt mg) (C_law_take : Cal P w K mg base "_law_take" p_law_take 1 spTake) :
    Cal P w K mg base "_law_mixed" p_law_mixed 2 (spMixed K) := by
  refine D.cal sc_law_mixed (fun vs H Q E h => ?_) (fun f cdv A outer s H vs Q E hr h => ?_)
  · obtain ⟨b, c, l, xs, rfl, _⟩ := h; rfl
  · obtain ⟨b, c, l, xs, rfl, hb, hl, n1, q⟩ := h
    refine ⟨_, (pss_cons (ps_set (i := 2) sc_law_mixed.nd rfl (.inl rfl) (pe_lst pa_nil))
  (pss_cons (ps_for PassesOwn.never rfl (k_piL K (pv 1)) (pg_name (i := 3) sc_law_mixed.nd rfl (by first | exact .inl rfl | exact .inr rfl))
  (pss_one (ps_expr (k_bm K PySem.F.plainAttrs_list PySem.F.slot_list_insert PySem.F.type_list_insert mt_insert (pv 2) (pa_cons (pe_cal C_law_take hr (pa_cons (pv 0) (pa_cons (pe_op op_add (pe_callB (k_len K) (by rfl) B.len (by decide +kernel) (pa_cons (pv 2) pa_nil)) pe_int) pa_nil))) (pa_cons (pv 3) pa_nil))))))
  (pss_one (ps_ret (pv 2))))), ?_⟩
    refine ⟨by decide, fun D nD => ?_⟩
    have ne := hb.ne nD
    have nc := hb.nec nD
    have hl0 : SqL K (upd H D (.lst [])) l xs := Same.sql (same_new nD) (off_sql hl)
    refine ⟨.ref l, rfl, l, rfl, ⟨xs, hl0⟩, ?_⟩
    refine for_it (walk_list (xs := xs)) (fun i σ H1 => ∃ ys y3, σ = [some (.ref b), some (.ref l), some (.ref D), y3] ∧ H1 D = some (.lst ys) ∧
      ys.Perm (xs.take i) ∧ Kp [b] H H1 ∧ Bg H1 b c) ⟨[], none, rfl, upd_same, by simp, Kp.new nD, hb.new nD⟩ ?_ ?_ ?_
    · rintro i σ H1 hi ⟨ys, y3, rfl, e1, pm, k1, b1⟩
      exact off_sql (Same.sql k1.off' hl)
    · rintro i x σ H1 H2 hi ⟨ys, y3, rfl, e1, pm, k1, b1⟩ ⟨rfl, hx⟩
      have hyl : ys.length = i := by
        have := pm.length_eq
        rw [List.length_take] at this
        omega
      refine ⟨.ref D, rfl, .inl ⟨rfl, _, sql_of e1⟩, .ref b, rfl, .ref D, rfl, D, ys, rfl, .inl (sql_of e1), _, 1, rfl, rfl, b, c, _, rfl, b1, by omega, by omega, fun r H3 r0 r1 k3 b3 => ?_⟩
      have e3 := k3 _ _ (by simp [ne]) e1
      refine ⟨x, rfl, D, ys, r, x, rfl, rfl, e3, small1000 (by omega), r0, by omega, ?_⟩
      refine ⟨_, some x, rfl, upd_same, ?_, (k1.trans k3).wf nD, b3.wr ne nc⟩
      rw [List.take_add_one, hx]
      have h1 : (ys.take r.toNat ++ [x] ++ ys.drop r.toNat).Perm (ys ++ [x]) := by
        rw [List.append_assoc]
        have e : ys ++ [x] = ys.take r.toNat ++ (ys.drop r.toNat ++ [x]) := by rw [← List.append_assoc, List.take_append_drop]
        rw [e]
        exact List.Perm.append_left _ List.perm_append_comm
      exact h1.trans (pm.append_right _)
    · rintro σ H1 ⟨ys, y3, rfl, e1, pm, k1, b1⟩
      exact ⟨.ref D, rfl, q D H1 ys nD e1 (by rw [List.take_length] at pm; exact pm) k1 b1⟩
/-! ### the bag -/
def spBag (K : PySem.W.Frag) : Sp := fun vs H Q _ => ∃ (a : Addr) (ns : List Int), vs = [.ref a] ∧ SqL K H a (ns.map V.int) ∧
  ∀ b c H', H b = none → H c = none → Same H H' → Bg H' b c → Q (.ref b) H'
abbrev s_law_bag : Stmt := topS 32
abbrev p_law_bag : List Str := ["_law_script"]
theorem sc_law_bag : FnScope ["_law_script", "_law_cell"] ["_law_script"] (defScope s_law_bag) := ⟨rfl, rfl, rfl, by decide +kernel, rfl, by decide +kernel, by decide +kernel⟩
theorem c_bag (D : Def K mg "_law_bag" s_law_bag p_law_bag) (B : Blt mg) : Cal P w K mg base "_law_bag" p_law_bag 1 (spBag K) := by
  refine D.cal sc_law_bag (fun vs H Q E h => ?_) (fun f cdv A outer s H vs Q E hr h => ?_)
  · obtain ⟨a, ns, rfl, _⟩ := h; rfl
  · obtain ⟨a, ns, rfl, hl, q⟩ := h
    refine ⟨_, (pss_one (ps_ret (pe_lst (pa_cons pe_int (pa_cons pe_int (pa_cons pe_int (pa_cons (pe_lc rfl sc_law_bag.nd (k_piL K (pe_slice (k_slL K) (pv 0) po_none (po_some pe_int))) (blkOk_by (own := [("_law_cell", 1)]) (by kernel_rfl)) (fun _ _ _ _ _ => (pg_name (i := 1) sc_law_bag.nd rfl (by first | exact .inl rfl | exact .inr rfl))) (fun _ _ _ _ _ => pts_nil) (fun _ _ _ _ _ => (pe_callB call_abs (by rfl) B.abs (by decide +kernel) (pa_cons (pv 1) pa_nil)))) pa_nil))))))), ?_⟩
    refine ⟨.ref a, rfl, 63, rfl, a, _, rfl, hl, fun S nS => ?_⟩
    obtain ⟨ms, hms, hml⟩ : ∃ ms : List Int, cutV (ns.map V.int) none (some 63) = ms.map V.int ∧ ms.length ≤ 63 := by
      refine ⟨ns.take 63, ?_, by rw [List.length_take]; omega⟩
      unfold cutV
      rw [show HT.sIx (ns.map V.int).length 0 none = 0 from HT.sIx_none _ _,
        show HT.sIx (ns.map V.int).length (ns.map V.int).length (some 63) = min 63 (ns.map V.int).length from HT.sIx_nat _ _ 63]
      rw [List.drop_zero, List.map_take, Nat.sub_zero]
      rcases Nat.le_total 63 (ns.map V.int).length with h | h
      · rw [Nat.min_eq_left h]
      · rw [Nat.min_eq_right h, List.take_length, List.take_of_length_le h]
    rw [hms]
    refine ⟨S, rfl, ⟨_, sql_of upd_same⟩, fun D nD => ?_⟩
    obtain ⟨nDS, nD0⟩ := up_none nD
    refine lc_it (walk_list (xs := ms.map V.int)) (fun i H1 => ∃ cs : List Int, H1 D = some (.lst (cs.map V.int)) ∧ cs.length = i ∧ (∀ n ∈ cs, 0 ≤ n) ∧ Same H H1 ∧ SqL K H1 S (ms.map V.int))
      ⟨[], upd_same, rfl, by simp, (same_new nS).trans (same_new nD), Same.sql (same_new nD) (sql_of upd_same)⟩ ?_ ?_ ?_
    · rintro i H1 hi ⟨cs, _, _, _, _, h⟩; exact h
    · rintro i x H1 H2 hi ⟨cs, e1, l1, c0, sm, h⟩ ⟨rfl, hx⟩
      rw [List.getElem?_map] at hx
      obtain ⟨j, hj, rfl⟩ := Option.map_eq_some_iff.mp hx
      refine ⟨rfl, .int j, rfl, j, rfl, cs.map V.int, e1, small1000 (by rw [List.length_map] at *; omega), ?_⟩
      refine ⟨cs ++ [if j < 0 then -j else j], by rw [upd_same, List.map_append]; rfl, by rw [List.length_append, l1]; rfl, ?_, ?_, ?_⟩
      · intro n hn
        rcases List.mem_append.mp hn with h | h
        · exact c0 n h
        · rw [List.mem_singleton] at h
          subst h
          split <;> omega
      · intro b o e
        rw [upd_ne (ne_of_none e nD0)]
        exact sm b o e
      · have nSD : S ≠ D := nDS.symm
        rcases h with h | h
        · rcases h with h | ⟨o, h⟩
          · exact .inl (.inl (by rw [upd_ne nSD]; exact h))
          · exact .inl (.inr ⟨o, by rw [upd_ne nSD]; exact h⟩)
        · exact .inr h
    · rintro H1 ⟨cs, e1, l1, c0, sm, h⟩
      refine ⟨len_ok (by simp), fun p np => ?_⟩
      refine q p D _ (sm.free np) nD0 (sm.trans (same_new np)) ⟨⟨0, 1234567891, 0, upd_same, by decide, by decide, by decide, by decide⟩, cs, ?_, by rw [l1, List.length_map]; exact hml, c0⟩
      rw [upd_ne (ne_of_none e1 np)]
      exact e1
end
end CB
set_option Elab.async false
set_option linter.all false
set_option maxRecDepth 100000
set_option maxHeartbeats 4000000
namespace CB
open PySem PySem.Spec
open PyProof.Rows L2
open PySem.W (Datum Tup DatumOrd)
theorem ifT {b : Bool} {A B : Prop} (h : b = true) (p : A) : if b = true then A else B := by rw [if_pos h]; exact p
theorem ifF {b : Bool} {A B : Prop} (h : b = false) (p : B) : if b = true then A else B := by rw [if_neg (by rw [h]; decide)]; exact p
theorem all_rep (n : Nat) : (List.replicate n true).all id = true := by
  rw [List.all_eq_true]
  intro b hb
  exact (List.mem_replicate.mp hb).2
abbrev letters : Str := "abcdefghijklmnopqrstuvwxyz"
/-- a name -/
def Nm (x : Str) : Prop := 1 ≤ x.length ∧ x.length ≤ 6 ∧ ∀ c ∈ x.cps.toList, c ∈ letters.cps.toList
theorem len_str (x : Str) : x.length = x.cps.size := rfl
section
variable {P : Program} {w : World} {K : PySem.W.Frag} {mg : Str → Option Value} {base : Heap} {t1 t2 t3 t4 : Tok}
/-- the list of a comprehension whose items are all True -/
def AllT (H0 : Hp) (D : Addr) (i : Nat) (H : Hp) : Prop := Same H0 H ∧ H D = some (.lst ((List.replicate i true).map V.bl))
theorem AllT.nil {H0 : Hp} {D : Addr} (n : H0 D = none) : AllT H0 D 0 (upd H0 D (.lst [])) := ⟨same_new n, upd_same⟩
theorem AllT.push {H0 H H1 : Hp} {D : Addr} {i : Nat} (t : AllT H0 D i H) (n : H0 D = none) (k : Same H H1) (hi : i < 1000) :
    ∃ acc, H1 D = some (.lst acc) ∧ acc.length < sizeLine ∧ AllT H0 D (i + 1) (upd H1 D (.lst (acc ++ [.bl true]))) := by
  refine ⟨_, k _ _ t.2, small1000 (by rw [List.length_map, List.length_replicate]; omega), fun c u e => ?_, ?_⟩
  · rw [upd_ne (ne_of_none e n)]
    exact k _ _ (t.1 _ _ e)
  · rw [upd_same, List.replicate_succ', List.map_append]
    rfl
theorem AllT.sql {H0 H : Hp} {D : Addr} {i : Nat} (t : AllT H0 D i H) : SqL K H D ((List.replicate i true).map V.bl) := sql_of t.2
/-! ### is_name -/
def spName : Sp := fun vs H Q _ => ∃ x : Str, vs = [.str x] ∧ Nm x ∧ ∀ H', Same H H' → Q (.bl true) H'
abbrev s_is_name : Stmt := topS 12
abbrev p_is_name : List Str := ["thing"]
theorem sc_is_name : FnScope ["thing", "sign"] ["thing"] (defScope s_is_name) := ⟨rfl, rfl, rfl, by decide +kernel, rfl, by decide +kernel, by decide +kernel⟩
theorem c_is_name (D : Def K mg "is_name" s_is_name p_is_name) (B : Blt mg) (M : Cst mg t1 t2 t3 t4) : Cal P w K mg base "is_name" p_is_name 1 spName := by
  refine D.cal sc_is_name (fun vs H Q E h => ?_) (fun f cdv A outer s H vs Q E hr h => ?_)
  · obtain ⟨x, rfl, _⟩ := h; rfl
  · obtain ⟨x, rfl, ⟨h1, h6, hl⟩, q⟩ := h
    refine ⟨_, (pss_cons (ps_if (PW.pt (pw_or (pt_not (pt_val (pe_callB (k_isOk K) (by rfl) B.isinstance (by decide +kernel) (pa_cons (pv 0) (pa_cons (pe_bltn (v := .ty "str") (u := .type "str") (by rfl) B.str (by decide +kernel) rfl) pa_nil))))) (pw_or1 (pt_not (pt_chain op_le op_le pe_int (pe_callB call_len_str (by rfl) B.len (by decide +kernel) (pa_cons (pv 0) pa_nil)) (pe_glob (v := .int 6) (by rfl) M.MOST_SIGNS ⟨_, rfl⟩))))))
  (pss_one (ps_ret pe_bl))
  pss_nil)
  (pss_one (ps_ret (pe_callB (k_all K) (by rfl) B.all (by decide +kernel) (pa_cons (pe_lc rfl sc_is_name.nd (pi_str (pv 0)) (blkOk_by (own := [("sign", 1)]) (by kernel_rfl)) (fun _ _ _ _ _ => (pg_name (i := 1) sc_is_name.nd rfl (by first | exact .inl rfl | exact .inr rfl))) (fun _ _ _ _ _ => pts_nil) (fun _ _ _ _ _ => (pe_cmpR op_inS (pv 1) (pe_glob (v := .str letters) (by rfl) M.LETTERS ⟨_, rfl⟩) (by with_unfolding_all rfl)))) pa_nil))))), ?_⟩
    refine ⟨.str x, rfl, .str x, "str", rfl, ty_str, true, rfl, iteF ?_⟩
    refine ⟨.str x, rfl, x, rfl, Nat.le_of_lt (small1000 (by omega)), 1, x.length, rfl, rfl, _, rfl, ifT (decide_eq_true (by omega)) ⟨_, 6, rfl, rfl, _, rfl, ifF (by simp; omega) ?_⟩⟩
    refine ⟨.str x, rfl, x, rfl, fun D nD => ?_⟩
    have hz : x.cps.size ≤ 6 := h6
    refine lc_it (walk_str (z := x)) (fun i H1 => AllT H D i H1) (AllT.nil nD) (fun _ _ _ _ => trivial) ?_ ?_
    · rintro i v H1 H2 hi t ⟨rfl, c, hc, rfl⟩
      have hm : c ∈ letters.cps.toList := hl c (Array.mem_toList_iff.mpr (Array.mem_of_getElem? hc))
      refine ⟨rfl, .str ⟨#[c]⟩, rfl, c, _, rfl, rfl, ?_⟩
      rw [decide_eq_true hm]
      exact t.push nD (Same.refl _) (by omega)
    · intro H1 t
      refine ⟨D, _, rfl, t.sql, ?_⟩
      rw [all_rep]
      exact q _ t.1
/-! ### is_tuple_of -/
def spTupOf (K : PySem.W.Frag) : Sp := fun vs H Q _ => ∃ (a : Addr) (xs : List V), vs = [.ref a, .int xs.length] ∧ SqT K H a xs ∧ Q (.bl true) H
abbrev s_is_tuple_of : Stmt := topS 13
abbrev p_is_tuple_of : List Str := ["thing", "many"]
theorem sc_is_tuple_of : FnScope ["thing", "many"] ["thing", "many"] (defScope s_is_tuple_of) := ⟨rfl, rfl, rfl, by decide +kernel, rfl, by decide +kernel, by decide +kernel⟩
theorem c_is_tuple_of (D : Def K mg "is_tuple_of" s_is_tuple_of p_is_tuple_of) (B : Blt mg) : Cal P w K mg base "is_tuple_of" p_is_tuple_of 1 (spTupOf K) := by
  refine D.cal sc_is_tuple_of (fun vs H Q E h => ?_) (fun f cdv A outer s H vs Q E hr h => ?_)
  · obtain ⟨a, xs, rfl, _⟩ := h; rfl
  · obtain ⟨a, xs, rfl, hS, q⟩ := h
    refine ⟨_, (pss_one (ps_ret (pe_and (pe_callB (k_isOk K) (by rfl) B.isinstance (by decide +kernel) (pa_cons (pv 0) (pa_cons (pe_bltn (v := .ty "tuple") (u := .type "tuple") (by rfl) B.tuple (by decide +kernel) rfl) pa_nil))) (pe_one (pe_cmpR op_eq (pe_callB (k_len K) (by rfl) B.len (by decide +kernel) (pa_cons (pv 0) pa_nil)) (pv 1) (nomark _)))))), ?_⟩
    refine ⟨.ref a, rfl, .ref a, "tuple", rfl, ty_sqt hS, true, rfl, iteT ?_⟩
    refine ⟨.ref a, rfl, a, xs, rfl, .inr hS, .int xs.length, rfl, rfl, ?_⟩
    rw [decide_eq_true rfl]
    exact q
/-! ### are_names -/
def spNames (K : PySem.W.Frag) : Sp := fun vs H Q _ => ∃ (v : V) (ks : List Str), vs = [v] ∧ Hd K H v (Tup.mk ks) ∧ 1 ≤ ks.length ∧ ks.length ≤ 6 ∧ ks.Nodup ∧ (∀ k ∈ ks, Nm k) ∧
  ∀ H', Same H H' → Q (.bl true) H'
abbrev s_are_names : Stmt := topS 14
abbrev p_are_names : List Str := ["thing"]
theorem sc_are_names : FnScope ["thing", "item"] ["thing"] (defScope s_are_names) := ⟨rfl, rfl, rfl, by decide +kernel, rfl, by decide +kernel, by decide +kernel⟩
theorem c_are_names (D : Def K mg "are_names" s_are_names p_are_names) (B : Blt mg) (M : Cst mg t1 t2 t3 t4) (C_is_name : Cal P w K mg base "is_name" p_is_name 1 spName) :
    Cal P w K mg base "are_names" p_are_names 2 (spNames K) := by
  refine D.cal sc_are_names (fun vs H Q E h => ?_) (fun f cdv A outer s H vs Q E hr h => ?_)
  · obtain ⟨v, ks, rfl, _⟩ := h; rfl
  · obtain ⟨v, ks, rfl, hv, n1, n6, nd, hn, q⟩ := h
    refine ⟨_, (pss_cons (ps_if (PW.pt (pw_or (pt_not (pt_val (pe_callB (k_isOk K) (by rfl) B.isinstance (by decide +kernel) (pa_cons (pv 0) (pa_cons (pe_bltn (v := .ty "tuple") (u := .type "tuple") (by rfl) B.tuple (by decide +kernel) rfl) pa_nil))))) (pw_or1 (pt_not (pt_chain op_le op_le pe_int (pe_callB (k_len K) (by rfl) B.len (by decide +kernel) (pa_cons (pv 0) pa_nil)) (pe_glob (v := .int 6) (by rfl) M.MOST_KINDS ⟨_, rfl⟩))))))
  (pss_one (ps_ret pe_bl))
  pss_nil)
  (pss_one (ps_ret (pe_and (pe_callB (k_all K) (by rfl) B.all (by decide +kernel) (pa_cons (pe_lc rfl sc_are_names.nd (k_piT K (pv 0)) (blkOk_by (own := [("item", 1)]) (by kernel_rfl)) (fun _ _ _ _ _ => (pg_name (i := 1) sc_are_names.nd rfl (by first | exact .inl rfl | exact .inr rfl))) (fun _ _ _ _ _ => pts_nil) (fun _ _ _ _ _ => (pe_cal C_is_name hr (pa_cons (pv 1) pa_nil)))) pa_nil)) (pe_one (pe_cmpR op_eq (k_lenSetT K B.len B.set (pv 0)) (pe_callB (k_len K) (by rfl) B.len (by decide +kernel) (pa_cons (pv 0) pa_nil)) (nomark _))))))), ?_⟩
    obtain ⟨a, rfl, hS⟩ := hd_strT hv
    have hS : SqT K H a (ks.map V.str) := hS
    refine ⟨.ref a, rfl, .ref a, "tuple", rfl, ty_sqt hS, true, rfl, iteF ?_⟩
    refine ⟨.ref a, rfl, a, _, rfl, .inr hS, 1, _, rfl, rfl, _, rfl, ifT (by simp; omega) ⟨_, 6, rfl, rfl, _, rfl, ifF (by simp; omega) ?_⟩⟩
    refine ⟨.ref a, rfl, a, rfl, ⟨_, hS⟩, fun D nD => ?_⟩
    refine lc_it (walk_tup (xs := ks.map V.str)) (fun i H1 => AllT H D i H1) (AllT.nil nD) (fun i H1 _ t => Same.sqt t.1 hS) ?_ ?_
    · rintro i v H1 H2 hi t ⟨rfl, hv⟩
      rw [List.getElem?_map] at hv
      obtain ⟨k, hk, rfl⟩ := Option.map_eq_some_iff.mp hv
      refine ⟨rfl, .str k, rfl, k, rfl, hn k (List.mem_of_getElem? hk), fun H3 s3 => ?_⟩
      exact t.push nD s3 (by rw [List.length_map] at hi; omega)
    · intro H1 t
      refine ⟨D, _, rfl, t.sql, _, rfl, ?_⟩
      rw [all_rep]
      refine iteT ?_
      have h1 : SqT K H1 a (ks.map V.str) := Same.sqt t.1 hS
      refine ⟨.ref a, rfl, a, ks, rfl, h1, nd, by omega, .ref a, rfl, a, _, rfl, .inr h1, rfl, ?_⟩
      rw [List.length_map, decide_eq_true rfl]
      exact q _ t.1
/-! ### in_order, is_part -/
def ord (ks ps : List Str) : List Str := ks.filter fun k => decide (k ∈ ps)
def spInOrder (K : PySem.W.Frag) : Sp := fun vs H Q _ => ∃ (v u : V) (ks ps : List Str), vs = [v, u] ∧ Hd K H v (Tup.mk ks) ∧ Hd K H u (Tup.mk ps) ∧ ks.length ≤ 100 ∧
  ∀ r H', Same H H' → Hd K H' r (Tup.mk (ord ks ps)) → Q r H'
abbrev s_in_order : Stmt := topS 15
abbrev p_in_order : List Str := ["kinds", "part"]
theorem sc_in_order : FnScope ["kinds", "part", "kind"] ["kinds", "part"] (defScope s_in_order) := ⟨rfl, rfl, rfl, by decide +kernel, rfl, by decide +kernel, by decide +kernel⟩
theorem c_in_order (D : Def K mg "in_order" s_in_order p_in_order) (B : Blt mg) : Cal P w K mg base "in_order" p_in_order 1 (spInOrder K) := by
  refine D.cal sc_in_order (fun vs H Q E h => ?_) (fun f cdv A outer s H vs Q E hr h => ?_)
  · obtain ⟨v, u, ks, ps, rfl, _⟩ := h; rfl
  · obtain ⟨v, u, ks, ps, rfl, hv, hu, hl, q⟩ := h
    refine ⟨_, (pss_one (ps_ret (pe_callTy (k_tuple K) (by rfl) B.tuple (by decide +kernel) (pa_cons (pe_lc rfl sc_in_order.nd (k_piT K (pv 0)) (blkOk_by (own := [("kind", 2)]) (by kernel_rfl)) (fun _ _ _ _ _ => (pg_name (i := 2) sc_in_order.nd rfl (by first | exact .inl rfl | exact .inr rfl))) (fun _ _ _ _ _ => (pts_one (pt_cmpR (k_inX K Str hr.units) (pv 2) (pv 1) (by with_unfolding_all rfl)))) (fun _ _ _ _ _ => (pv 2))) pa_nil)))), ?_⟩
    obtain ⟨a, rfl, hS⟩ := hd_strT hv
    have hS : SqT K H a (ks.map V.str) := hS
    refine ⟨.ref a, rfl, a, rfl, ⟨_, hS⟩, fun D nD => ?_⟩
    refine lc_it (walk_tup (xs := ks.map V.str)) (fun i H1 => Same H H1 ∧ H1 D = some (.lst ((ord (ks.take i) ps).map V.str))) ⟨same_new nD, upd_same⟩
      (fun i H1 _ t => Same.sqt t.1 hS) ?_ ?_
    · rintro i x H1 H2 hi ⟨sm, e⟩ ⟨rfl, hx⟩
      rw [List.getElem?_map] at hx
      obtain ⟨k, hk, rfl⟩ := Option.map_eq_some_iff.mp hx
      refine ⟨rfl, .str k, rfl, u, rfl, k, ps, hd_str k, .inr (Dp.mono sm hu), _, rfl, ite2 (fun hm => ?_) (fun hm => ?_)⟩
      · refine ⟨.str k, rfl, _, e, small1000 ?_, fun c o ec => ?_, ?_⟩
        · rw [List.length_map]
          exact Nat.le_trans (List.length_filter_le _ _) (by rw [List.length_take]; omega)
        · rw [upd_ne (ne_of_none ec nD)]; exact sm _ _ ec
        · rw [upd_same, List.take_add_one, hk]
          unfold ord
          rw [List.filter_append, List.map_append]
          simp [of_decide_eq_true hm]
      · refine ⟨sm, ?_⟩
        rw [e, List.take_add_one, hk]
        unfold ord
        rw [List.filter_append]
        simp [of_decide_eq_false (Bool.eq_false_iff.mpr hm)]
    · rintro H1 ⟨sm, e⟩
      refine ⟨D, _, rfl, .inl ⟨sql_of e, fun p np => ?_⟩⟩
      rw [List.length_map, List.take_length] 
      exact q _ _ (sm.trans (same_new np)) (hd_tup sqt_new (all_strs _))
def spIsPart (K : PySem.W.Frag) : Sp := fun vs H Q _ => ∃ (v u : V) (ks ps : List Str), vs = [v, u] ∧ Hd K H v (Tup.mk ks) ∧ Hd K H u (Tup.mk ps) ∧ ks.length ≤ 100 ∧ ps.length ≤ 100 ∧
  ord ks ps = ps ∧ ∀ H', Same H H' → Q (.bl true) H'
abbrev s_is_part : Stmt := topS 16
abbrev p_is_part : List Str := ["kinds", "thing"]
theorem sc_is_part : FnScope ["kinds", "thing", "item"] ["kinds", "thing"] (defScope s_is_part) := ⟨rfl, rfl, rfl, by decide +kernel, rfl, by decide +kernel, by decide +kernel⟩
theorem c_is_part (D : Def K mg "is_part" s_is_part p_is_part) (B : Blt mg) (C_in_order : Cal P w K mg base "in_order" p_in_order 1 (spInOrder K)) :
    Cal P w K mg base "is_part" p_is_part 2 (spIsPart K) := by
  refine D.cal sc_is_part (fun vs H Q E h => ?_) (fun f cdv A outer s H vs Q E hr h => ?_)
  · obtain ⟨v, u, ks, ps, rfl, _⟩ := h; rfl
  · obtain ⟨v, u, ks, ps, rfl, hv, hu, hl, hl2, ho, q⟩ := h
    refine ⟨_, (pss_cons (ps_if (PW.pt (pw_or (pt_not (pt_val (pe_callB (k_isOk K) (by rfl) B.isinstance (by decide +kernel) (pa_cons (pv 1) (pa_cons (pe_bltn (v := .ty "tuple") (u := .type "tuple") (by rfl) B.tuple (by decide +kernel) rfl) pa_nil))))) (pw_or1 (pt_not (pt_val (pe_callB (k_all K) (by rfl) B.all (by decide +kernel) (pa_cons (pe_lc rfl sc_is_part.nd (k_piT K (pv 1)) (blkOk_by (own := [("item", 2)]) (by kernel_rfl)) (fun _ _ _ _ _ => (pg_name (i := 2) sc_is_part.nd rfl (by first | exact .inl rfl | exact .inr rfl))) (fun _ _ _ _ _ => pts_nil) (fun _ _ _ _ _ => (pe_callB (k_isOk K) (by rfl) B.isinstance (by decide +kernel) (pa_cons (pv 2) (pa_cons (pe_bltn (v := .ty "str") (u := .type "str") (by rfl) B.str (by decide +kernel) rfl) pa_nil))))) pa_nil)))))))
  (pss_one (ps_ret pe_bl))
  pss_nil)
  (pss_one (ps_ret (pe_cmpR (k_eqX K (Tup Str) hr.units) (pe_cal C_in_order hr (pa_cons (pv 0) (pa_cons (pv 1) pa_nil))) (pv 1) (nomark _))))), ?_⟩
    obtain ⟨a, rfl, hS⟩ := hd_strT hu
    have hS : SqT K H a (ps.map V.str) := hS
    refine ⟨.ref a, rfl, .ref a, "tuple", rfl, ty_sqt hS, true, rfl, iteF ?_⟩
    refine ⟨.ref a, rfl, a, rfl, ⟨_, hS⟩, fun D nD => ?_⟩
    refine lc_it (walk_tup (xs := ps.map V.str)) (fun i H1 => AllT H D i H1) (AllT.nil nD) (fun i H1 _ t => Same.sqt t.1 hS) ?_ ?_
    · rintro i x H1 H2 hi t ⟨rfl, hx⟩
      rw [List.getElem?_map] at hx
      obtain ⟨k, hk, rfl⟩ := Option.map_eq_some_iff.mp hx
      refine ⟨rfl, .str k, rfl, .str k, "str", rfl, ty_str, ?_⟩
      exact t.push nD (Same.refl _) (by rw [List.length_map] at hi; omega)
    · intro H1 t
      refine ⟨D, _, rfl, t.sql, _, rfl, ?_⟩
      rw [all_rep]
      refine iteF ?_
      refine ⟨v, rfl, .ref a, rfl, v, .ref a, ks, ps, rfl, Dp.mono t.1 hv, Dp.mono t.1 hu, hl, fun r H2 s2 hr2 => ?_⟩
      rw [ho] at hr2
      refine ⟨.ref a, rfl, Tup.mk ps, Tup.mk ps, hr2, Dp.mono (t.1.trans s2) hu, ?_⟩
      rw [decide_eq_true rfl]
      exact q _ (t.1.trans s2)
end
end CB
set_option Elab.async false
set_option linter.all false
set_option maxRecDepth 100000
set_option maxHeartbeats 4000000
namespace CB
open PySem PySem.Spec
open PyProof.Rows L2
open PySem.W (Datum Tup DatumOrd)
abbrev HT := Tup Str × Tup (Tup Str)
/-- the house of the kinds ks and the calls cs -/
def hs (ks : List Str) (cs : List (List Str)) : HT := (⟨ks⟩, ⟨cs.map Tup.mk⟩)
structure VH (ks : List Str) (cs : List (List Str)) : Prop where
  k1 : 1 ≤ ks.length
  k6 : ks.length ≤ 6
  nd : ks.Nodup
  nm : ∀ k ∈ ks, Nm k
  c1 : 1 ≤ cs.length
  c8 : cs.length ≤ 8
  ne : ∀ c ∈ cs, c ≠ []
  ord : ∀ c ∈ cs, ord ks c = c
  asc : ∀ i a b, cs[i]? = some a → cs[i + 1]? = some b → DatumOrd.lt (Tup.mk a) (Tup.mk b) = true
  use : ∀ k ∈ ks, ∃ c ∈ cs, k ∈ c
theorem ord_le (ks ps : List Str) : (ord ks ps).length ≤ ks.length := List.length_filter_le _ _
theorem VH.len {ks : List Str} {cs : List (List Str)} (h : VH ks cs) {c : List Str} (m : c ∈ cs) : c.length ≤ 6 := by
  have := ord_le ks c
  rw [h.ord c m] at this
  have := h.k6
  omega
theorem VH.mem {ks : List Str} {cs : List (List Str)} (h : VH ks cs) {c : List Str} (m : c ∈ cs) {k : Str} (hk : k ∈ c) : k ∈ ks := by
  rw [← h.ord c m] at hk
  exact (List.mem_filter.mp hk).1
section
variable {P : Program} {w : World} {K : PySem.W.Frag} {mg : Str → Option Value} {base : Heap} {t1 t2 t3 t4 : Tok}
theorem hd_house {H : Hp} {v : V} {ks : List Str} {cs : List (List Str)} (h : Hd K H v (hs ks cs)) : ∃ a x y, v = .ref a ∧ SqT K H a [x, y] ∧ Hd K H x (Tup.mk ks) ∧ Hd K H y (Tup.mk (cs.map Tup.mk)) := hd_pair_inv h
def spHouse (K : PySem.W.Frag) : Sp := fun vs H Q _ => ∃ (v : V) (ks : List Str) (cs : List (List Str)), vs = [v] ∧ Hd K H v (hs ks cs) ∧ VH ks cs ∧ ∀ H', Same H H' → Q (.bl true) H'
theorem map_get {α β : Type} {f : α → β} {l : List α} {i : Nat} {y : β} (h : (l.map f)[i]? = some y) : ∃ x, l[i]? = some x ∧ f x = y := by
  rw [List.getElem?_map] at h
  obtain ⟨x, h1, h2⟩ := Option.map_eq_some_iff.mp h
  exact ⟨x, h1, h2⟩
theorem cut1 (xs : List V) (h : 1 ≤ xs.length) : cutV xs (some 1) none = xs.drop 1 := by
  unfold cutV
  rw [show HT.sIx xs.length 0 (some 1) = min 1 xs.length from HT.sIx_nat xs.length 0 1, HT.sIx_none, Nat.min_eq_left h]
  rw [List.take_of_length_le (by rw [List.length_drop]; omega)]
abbrev s_is_house : Stmt := topS 17
abbrev p_is_house : List Str := ["thing"]
theorem sc_is_house : FnScope ["thing", "kinds", "calls", "kind", "call", "one", "other"] ["thing"] (defScope s_is_house) := ⟨rfl, rfl, rfl, by decide +kernel, rfl, by decide +kernel, by decide +kernel⟩
theorem c_is_house (D : Def K mg "is_house" s_is_house p_is_house) (B : Blt mg) (M : Cst mg t1 t2 t3 t4) (C_is_tuple_of : Cal P w K mg base "is_tuple_of" p_is_tuple_of 2 (spTupOf K))
    (C_are_names : Cal P w K mg base "are_names" p_are_names 2 (spNames K)) (C_is_part : Cal P w K mg base "is_part" p_is_part 2 (spIsPart K)) :
    Cal P w K mg base "is_house" p_is_house 3 (spHouse K) := by
  refine D.cal sc_is_house (fun vs H Q E h => ?_) (fun f cdv A outer s H vs Q E hr h => ?_)
  · obtain ⟨v, ks, cs, rfl, _⟩ := h; rfl
  · obtain ⟨v, ks, cs, rfl, hv, vh, q⟩ := h
    refine ⟨_, (pss_cons (ps_if (PW.pt (pw_or (pt_not (pt_val (pe_cal C_is_tuple_of hr (pa_cons (pv 0) (pa_cons pe_int pa_nil))))) (pw_or1 (pt_not (pt_val (pe_cal C_are_names hr (pa_cons (pe_ix (k_ixT K) (pv 0) pe_int (fun _ _ => rfl)) pa_nil)))))))
  (pss_one (ps_ret pe_bl))
  pss_nil)
  (pss_cons (ps_asg (pv 0) (k_tup K (n := 2) rfl (pgs_cons (pg_name (i := 1) sc_is_house.nd rfl (by first | exact .inl rfl | exact .inr rfl)) (pgs_cons (pg_name (i := 2) sc_is_house.nd rfl (by first | exact .inl rfl | exact .inr rfl)) pgs_nil))))
  (pss_cons (ps_if (PW.pt (pw_or (pt_not (pt_val (pe_callB (k_isOk K) (by rfl) B.isinstance (by decide +kernel) (pa_cons (pv 2) (pa_cons (pe_bltn (v := .ty "tuple") (u := .type "tuple") (by rfl) B.tuple (by decide +kernel) rfl) pa_nil))))) (pw_or1 (pt_not (pt_chain op_le op_le pe_int (pe_callB (k_len K) (by rfl) B.len (by decide +kernel) (pa_cons (pv 2) pa_nil)) (pe_glob (v := .int 8) (by rfl) M.MOST_CALLS ⟨_, rfl⟩))))))
  (pss_one (ps_ret pe_bl))
  pss_nil)
  (pss_cons (ps_if (pt_not (pt_val (pe_callB (k_all K) (by rfl) B.all (by decide +kernel) (pa_cons (pe_lc rfl sc_is_house.nd (k_piT K (pv 2)) (blkOk_by (own := [("call", 4)]) (by kernel_rfl)) (fun _ _ _ _ _ => (pg_name (i := 4) sc_is_house.nd rfl (by first | exact .inl rfl | exact .inr rfl))) (fun _ _ _ _ _ => pts_nil) (fun _ _ _ _ _ => (pe_and (pe_cal C_is_part hr (pa_cons (pv 1) (pa_cons (pv 4) pa_nil))) (pe_one (pe_cmpR (k_neX K (Tup Str) hr.units) (pv 4) (pe_tup pa_nil) (nomark _)))))) pa_nil))))
  (pss_one (ps_ret pe_bl))
  pss_nil)
  (pss_cons (ps_if (pt_not (pt_val (pe_callB (k_all K) (by rfl) B.all (by decide +kernel) (pa_cons (pe_lc rfl sc_is_house.nd (k_zipA K (by rfl) B.zip (pa_cons (pv 2) (pa_cons (pe_slice (k_slT K) (pv 2) (po_some pe_int) po_none) pa_nil))) (blkOk_by (own := [("one", 5), ("other", 6)]) (by kernel_rfl)) (fun _ _ _ _ _ => (k_tup K (n := 2) rfl (pgs_cons (pg_name (i := 5) sc_is_house.nd rfl (by first | exact .inl rfl | exact .inr rfl)) (pgs_cons (pg_name (i := 6) sc_is_house.nd rfl (by first | exact .inl rfl | exact .inr rfl)) pgs_nil)))) (fun _ _ _ _ _ => pts_nil) (fun _ _ _ _ _ => (pe_cmpR (k_ltX K (Tup Str) hr.units) (pv 5) (pv 6) (nomark _)))) pa_nil))))
  (pss_one (ps_ret pe_bl))
  pss_nil)
  (pss_one (ps_ret (pe_callB (k_all K) (by rfl) B.all (by decide +kernel) (pa_cons (pe_lc rfl sc_is_house.nd (k_piT K (pv 1)) (blkOk_by (own := [("kind", 3)]) (by kernel_rfl)) (fun _ _ _ _ _ => (pg_name (i := 3) sc_is_house.nd rfl (by first | exact .inl rfl | exact .inr rfl))) (fun _ _ _ _ _ => pts_nil) (fun _ _ _ _ _ => (pe_callB (k_any K) (by rfl) B.any (by decide +kernel) (pa_cons (pe_lc rfl sc_is_house.nd (k_piT K (pv 2)) (blkOk_by (own := [("call", 4)]) (by kernel_rfl)) (fun _ _ _ _ _ => (pg_name (i := 4) sc_is_house.nd rfl (by first | exact .inl rfl | exact .inr rfl))) (fun _ _ _ _ _ => pts_nil) (fun _ _ _ _ _ => (pe_cmpR (k_inX K Str hr.units) (pv 3) (pv 4) (by with_unfolding_all rfl)))) pa_nil)))) pa_nil))))))))), ?_⟩
    obtain ⟨a, x, y, rfl, hS, hx, hy⟩ := hd_house hv
    have hk6 := vh.k6
    have hc8 := vh.c8
    refine ⟨.ref a, rfl, a, [x, y], rfl, hS, true, rfl, iteF ?_⟩
    refine ⟨.ref a, rfl, a, _, 0, x, rfl, rfl, hS, atI_nat (j := 0) rfl, x, ks, rfl, hx, vh.k1, vh.k6, vh.nd, vh.nm, fun H1 s1 => ⟨true, rfl, iteF ?_⟩⟩
    refine ⟨.ref a, rfl, a, [x, y], rfl, Same.sqt s1 hS, rfl, x, [y], rfl, y, [], rfl, rfl, ?_⟩
    have hx : Hd K H1 x (Tup.mk ks) := Dp.mono s1 hx
    obtain ⟨c, us, rfl, hC, hall⟩ := hd_tup_inv (Dp.mono s1 hy)
    have hul : us.length = cs.length := by
      have := all_len hall
      rwa [List.length_map] at this
    refine ⟨.ref c, rfl, .ref c, "tuple", rfl, ty_sqt hC, true, rfl, iteF ?_⟩
    refine ⟨.ref c, rfl, c, us, rfl, .inr hC, 1, _, rfl, rfl, _, rfl, ifT (by have := vh.c1; simp; omega) ⟨_, 8, rfl, rfl, _, rfl, ifF (by simp; omega) ?_⟩⟩
    -- all are parts, none is empty
    refine ⟨.ref c, rfl, c, rfl, ⟨_, hC⟩, fun D nD => ?_⟩
    refine lc_it (walk_tup (xs := us)) (fun i H2 => AllT H1 D i H2) (AllT.nil nD) (fun i H2 _ t => Same.sqt t.1 hC) ?_ ?_
    · rintro i z H2 H3 hi t ⟨rfl, hz⟩
      obtain ⟨tt, ht, hd⟩ := all_get hall hz
      obtain ⟨cc, hcc, rfl⟩ := map_get ht
      have hm : cc ∈ cs := List.mem_of_getElem? hcc
      refine ⟨rfl, x, rfl, z, rfl, x, z, ks, cc, rfl, Dp.mono t.1 hx, Dp.mono t.1 hd, by omega, by have := vh.len hm; omega, vh.ord cc hm, fun H4 s4 => ?_⟩
      refine ⟨true, rfl, iteT ?_⟩
      refine ⟨z, rfl, len_ok (by simp), fun p np => ?_⟩
      refine ⟨Tup.mk cc, Tup.mk [], Dp.mono (t.1.trans (s4.trans (same_new np))) hd, hd_tup sqt_new all_nil, ?_⟩
      rw [decide_eq_false (by intro e; exact vh.ne cc hm (congrArg Tup.items e))]
      exact t.push nD (s4.trans (same_new np)) (by omega)
    · intro H2 t
      refine ⟨D, _, rfl, t.sql, ?_⟩
      rw [all_rep]
      refine ⟨true, rfl, iteF ?_⟩
      -- ascending
      have hC2 : SqT K H2 c us := Same.sqt t.1 hC
      have h2 : Same H H2 := s1.trans t.1
      have hall2 : HdAll K H2 us (cs.map Tup.mk) := DpAll.mono t.1 hall
      have hx2 : Hd K H2 x (Tup.mk ks) := Dp.mono t.1 hx
      have hl1 : 1 ≤ us.length := by rw [hul]; exact vh.c1
      refine ⟨.ref c, rfl, .ref c, rfl, 1, rfl, c, us, rfl, hC2, fun z => ?_, fun _ p np => ?_⟩
      · exfalso
        obtain ⟨z1, _⟩ := z
        rw [show HT.sIx us.length 0 (some 1) = min 1 us.length from HT.sIx_nat us.length 0 1, Nat.min_eq_left hl1] at z1
        cases z1
      rw [cut1 us hl1]
      have s3 : Same H2 (upd H2 p (.tup (us.drop 1))) := same_new np
      have hp3 : SqT K (upd H2 p (.tup (us.drop 1))) p (us.drop 1) := sqt_new
      revert s3 hp3
      generalize upd H2 p (.tup (us.drop 1)) = H3
      intro s3 hp3
      refine ⟨c, p, us, us.drop 1, rfl, .inr ⟨Same.sqt s3 hC2, hp3, fun D2 nD2 => ?_⟩⟩
      refine lc_it (walk_zipT (xs := us) (ys := us.drop 1) rfl) (fun i H4 => AllT H3 D2 i H4) (AllT.nil nD2) (fun i H4 _ t => ⟨Same.sqt (s3.trans t.1) hC2, Same.sqt t.1 hp3⟩) ?_ ?_
      · rintro i z H4 H5 hi t4 ⟨T, u1, u2, rfl, nT, rfl, e1, e2⟩
        obtain ⟨tt1, ht1, hd1⟩ := all_get hall2 e1
        have e2' : us[i + 1]? = some u2 := by
          have e2 : (us.drop 1)[i]? = some u2 := e2
          rw [List.getElem?_drop, Nat.add_comm] at e2; exact e2
        obtain ⟨tt2, ht2, hd2⟩ := all_get hall2 e2'
        obtain ⟨c1, hc1, rfl⟩ := map_get ht1
        obtain ⟨c2, hc2, rfl⟩ := map_get ht2
        have s5 : Same H4 (upd H4 T (.tup [u1, u2])) := same_new nT
        refine ⟨T, [u1, u2], rfl, sqt_new, rfl, u1, [u2], rfl, u2, [], rfl, rfl, rfl, u1, rfl, u2, rfl, Tup.mk c1, Tup.mk c2, Dp.mono (s3.trans (t4.1.trans s5)) hd1, Dp.mono (s3.trans (t4.1.trans s5)) hd2, ?_⟩
        rw [vh.asc i c1 c2 hc1 hc2]
        exact t4.push nD2 s5 (by omega)
      · intro H4 t4
        refine ⟨D2, _, rfl, t4.sql, ?_⟩
        rw [all_rep]
        refine ⟨true, rfl, iteF ?_⟩
        -- every kind is in a call
        have s4 : Same H2 H4 := s3.trans t4.1
        obtain ⟨ka, rfl, hKa⟩ := hd_strT (Dp.mono s4 hx2)
        have hC4 : SqT K H4 c us := Same.sqt s4 hC2
        have hall4 : HdAll K H4 us (cs.map Tup.mk) := DpAll.mono s4 hall2
        refine ⟨.ref ka, rfl, ka, rfl, ⟨_, hKa⟩, fun D3 nD3 => ?_⟩
        refine lc_it (walk_tup (xs := ks.map V.str)) (fun i H5 => AllT H4 D3 i H5) (AllT.nil nD3) (fun i H5 _ t => Same.sqt t.1 hKa) ?_ ?_
        · rintro i z H5' H5 hi t5 ⟨rfl, hz⟩
          obtain ⟨k, hk, rfl⟩ := map_get hz
          obtain ⟨uc, huc, kin⟩ := vh.use k (List.mem_of_getElem? hk)
          have hC5 : SqT K H5 c us := Same.sqt t5.1 hC4
          refine ⟨rfl, .ref c, rfl, c, rfl, ⟨_, hC5⟩, fun D4 nD4 => ?_⟩
          refine lc_it (walk_tup (xs := us)) (fun j H6 => Same H5 H6 ∧ H6 D4 = some (.lst (((cs.take j).map fun cc => decide (k ∈ cc)).map V.bl))) ⟨same_new nD4, upd_same⟩ (fun j H6 _ t => Same.sqt t.1 hC5) ?_ ?_
          · rintro j z H6 H7 hj ⟨s6, e6⟩ ⟨rfl, hz⟩
            obtain ⟨tt, ht, hd⟩ := all_get hall4 hz
            obtain ⟨cc, hcc, rfl⟩ := map_get ht
            refine ⟨rfl, .str k, rfl, z, rfl, k, cc, hd_str k, .inr (Dp.mono (t5.1.trans s6) hd), _, e6, small1000 ?_, fun b o e => ?_, ?_⟩
            · rw [List.length_map, List.length_map, List.length_take]; omega
            · rw [upd_ne (ne_of_none e nD4)]; exact s6 _ _ e
            · rw [upd_same, List.take_add_one, hcc, List.map_append, List.map_append]
              rfl
          · rintro H6 ⟨s6, e6⟩
            refine ⟨D4, _, rfl, sql_of e6, ?_⟩
            have ht : (((cs.take us.length).map fun cc => decide (k ∈ cc)).any id) = true := by
              rw [hul, List.take_length, List.any_map, List.any_eq_true]
              exact ⟨uc, huc, decide_eq_true kin⟩
            rw [ht]
            exact t5.push nD3 s6 (by rw [List.length_map] at hi; omega)
        · intro H5 t5
          refine ⟨D3, _, rfl, t5.sql, ?_⟩
          rw [all_rep]
          exact q _ (h2.trans (s4.trans t5.1))
/-! ### is_set, is_kind, is_call -/
def spIsSet (K : PySem.W.Frag) : Sp := fun vs H Q _ => ∃ (v u : V) (ks : List Str) (cs : List (List Str)) (c : List Str), vs = [v, u] ∧ Hd K H v (hs ks cs) ∧ VH ks cs ∧ Hd K H u (Tup.mk c) ∧ c ∈ cs ∧
  ∀ H', Same H H' → Q (.bl true) H'
abbrev s_is_set : Stmt := topS 18
abbrev p_is_set : List Str := ["house", "thing"]
theorem sc_is_set : FnScope ["house", "thing"] ["house", "thing"] (defScope s_is_set) := ⟨rfl, rfl, rfl, by decide +kernel, rfl, by decide +kernel, by decide +kernel⟩
theorem c_is_set (D : Def K mg "is_set" s_is_set p_is_set) (C_is_part : Cal P w K mg base "is_part" p_is_part 2 (spIsPart K)) :
    Cal P w K mg base "is_set" p_is_set 3 (spIsSet K) := by
  refine D.cal sc_is_set (fun vs H Q E h => ?_) (fun f cdv A outer s H vs Q E hr h => ?_)
  · obtain ⟨v, u, ks, cs, c, rfl, _⟩ := h; rfl
  · obtain ⟨v, u, ks, cs, c, rfl, hv, vh, hu, hm, q⟩ := h
    refine ⟨_, (pss_one (ps_ret (pe_cal C_is_part hr (pa_cons (pe_ix (k_ixT K) (pv 0) pe_int (fun _ _ => rfl)) (pa_cons (pv 1) pa_nil))))), ?_⟩
    obtain ⟨a, x, y, rfl, hS, hx, hy⟩ := hd_house hv
    have := vh.k6
    have := vh.len hm
    exact ⟨.ref a, rfl, a, _, 0, x, rfl, rfl, hS, atI_nat (j := 0) rfl, u, rfl, x, u, ks, c, rfl, hx, hu, by omega, by omega, vh.ord c hm, q⟩
def spIsKind (K : PySem.W.Frag) : Sp := fun vs H Q _ => ∃ (v : V) (k : Str) (ks : List Str) (cs : List (List Str)), vs = [v, .str k] ∧ Hd K H v (hs ks cs) ∧ k ∈ ks ∧ ∀ H', Same H H' → Q (.bl true) H'
abbrev s_is_kind : Stmt := topS 19
abbrev p_is_kind : List Str := ["house", "thing"]
theorem sc_is_kind : FnScope ["house", "thing"] ["house", "thing"] (defScope s_is_kind) := ⟨rfl, rfl, rfl, by decide +kernel, rfl, by decide +kernel, by decide +kernel⟩
theorem c_is_kind (D : Def K mg "is_kind" s_is_kind p_is_kind) (B : Blt mg) : Cal P w K mg base "is_kind" p_is_kind 1 (spIsKind K) := by
  refine D.cal sc_is_kind (fun vs H Q E h => ?_) (fun f cdv A outer s H vs Q E hr h => ?_)
  · obtain ⟨v, k, ks, cs, rfl, _⟩ := h; rfl
  · obtain ⟨v, k, ks, cs, rfl, hv, hm, q⟩ := h
    refine ⟨_, (pss_one (ps_ret (pe_and (pe_callB (k_isOk K) (by rfl) B.isinstance (by decide +kernel) (pa_cons (pv 1) (pa_cons (pe_bltn (v := .ty "str") (u := .type "str") (by rfl) B.str (by decide +kernel) rfl) pa_nil))) (pe_one (pe_cmpR (k_inX K Str hr.units) (pv 1) (pe_ix (k_ixT K) (pv 0) pe_int (fun _ _ => rfl)) (by with_unfolding_all rfl)))))), ?_⟩
    obtain ⟨a, x, y, rfl, hS, hx, hy⟩ := hd_house hv
    refine ⟨.str k, rfl, .str k, "str", rfl, ty_str, true, rfl, iteT ?_⟩
    refine ⟨.str k, rfl, .ref a, rfl, a, _, 0, x, rfl, rfl, hS, atI_nat (j := 0) rfl, k, ks, hd_str k, .inr hx, ?_⟩
    rw [decide_eq_true hm]
    exact q _ (Same.refl _)
abbrev s_is_call : Stmt := topS 20
abbrev p_is_call : List Str := ["house", "thing"]
theorem sc_is_call : FnScope ["house", "thing"] ["house", "thing"] (defScope s_is_call) := ⟨rfl, rfl, rfl, by decide +kernel, rfl, by decide +kernel, by decide +kernel⟩
theorem c_is_call (D : Def K mg "is_call" s_is_call p_is_call) (C_is_set : Cal P w K mg base "is_set" p_is_set 3 (spIsSet K)) :
    Cal P w K mg base "is_call" p_is_call 4 (spIsSet K) := by
  refine D.cal sc_is_call (fun vs H Q E h => ?_) (fun f cdv A outer s H vs Q E hr h => ?_)
  · obtain ⟨v, u, ks, cs, c, rfl, _⟩ := h; rfl
  · obtain ⟨v, u, ks, cs, c, rfl, hv, vh, hu, hm, q⟩ := h
    refine ⟨_, (pss_one (ps_ret (pe_and (pe_cal C_is_set hr (pa_cons (pv 0) (pa_cons (pv 1) pa_nil))) (pe_one (pe_cmpR (k_inX K (Tup Str) hr.units) (pv 1) (pe_ix (k_ixT K) (pv 0) pe_int (fun _ _ => rfl)) (by with_unfolding_all rfl)))))), ?_⟩
    refine ⟨v, rfl, u, rfl, v, u, ks, cs, c, rfl, hv, vh, hu, hm, fun H1 s1 => ⟨true, rfl, iteT ?_⟩⟩
    obtain ⟨a, x, y, rfl, hS, hx, hy⟩ := hd_house (Dp.mono s1 hv)
    refine ⟨u, rfl, .ref a, rfl, a, _, 1, y, rfl, rfl, hS, atI_nat (j := 1) rfl, Tup.mk c, cs.map Tup.mk, Dp.mono s1 hu, .inr hy, ?_⟩
    rw [decide_eq_true (List.mem_map.mpr ⟨c, hm, rfl⟩)]
    exact q _ s1
end
end CB
set_option Elab.async false
set_option linter.all false
set_option maxRecDepth 100000
set_option maxHeartbeats 4000000
namespace CB
open PySem PySem.Spec
open PyProof.Rows L2
open PySem.W (Datum Tup DatumOrd)
/-! ### rows, things, what a row does -/
inductive Row where
  | put (n k : Str)
  | call (c : List Str)
  | drop (n : Str)
  deriving DecidableEq
def Row.dat : Row → PyData
  | .put n k => .tuple [.str "put", .str n, .str k]
  | .call c => .tuple [.str "call", .tuple (c.map PyData.str)]
  | .drop n => .tuple [.str "drop", .str n]
theorem eqv_str (x y : Str) : PyData.eqv (.str x) (.str y) = decide (x = y) := Datum.eqv x y
theorem eqv_strs (x y : List Str) : PyData.eqv (.tuple (x.map PyData.str)) (.tuple (y.map PyData.str)) = decide (x = y) := by
  have h := Datum.eqv (Tup.mk x) (Tup.mk y)
  have e : decide (Tup.mk x = Tup.mk y) = decide (x = y) := decide_eq_decide.mpr (by simp)
  rw [e] at h
  exact h
theorem depth_strs (c : List Str) : PyData.depth (.tuple (c.map PyData.str)) ≤ 1 := Datum.depth_le (Tup.mk c)
theorem plain_strs (c : List Str) : PyData.plain (.tuple (c.map PyData.str)) = true := Datum.plain (Tup.mk c)
theorem row_eqv (a b : Row) : PyData.eqv a.dat b.dat = decide (a = b) := by
  have d1 : decide (("put" : Str) = "call") = false := by decide
  have d2 : decide (("put" : Str) = "drop") = false := by decide
  have d3 : decide (("call" : Str) = "put") = false := by decide
  have d4 : decide (("call" : Str) = "drop") = false := by decide
  have d5 : decide (("drop" : Str) = "put") = false := by decide
  have d6 : decide (("drop" : Str) = "call") = false := by decide
  cases a <;> cases b <;> simp only [Row.dat] <;> rw [PyData.eqv] <;> simp only [PyData.eqvAll, eqv_str, eqv_strs, d1, d2, d3, d4, d5, d6, decide_true, Bool.true_and, Bool.and_true, Bool.false_and, reduceCtorEq, decide_false, Row.put.injEq, Row.call.injEq, Row.drop.injEq, Bool.decide_and]
instance : Datum Row where
  toD := Row.dat
  plain r := by
    cases r with
    | call c => simp only [Row.dat, PyData.plain, PyData.plainAll, Bool.true_and, Bool.and_true]; have := plain_strs c; simpa only [PyData.plain] using this
    | _ => rfl
  eqv := row_eqv
  depth := 2
  depth_le r := by
    cases r with
    | call c => simp only [Row.dat, PyData.depth, PyData.depthAll]; have := depth_strs c; simp only [PyData.depth] at this; omega
    | _ => simp only [Row.dat, PyData.depth, PyData.depthAll]; decide
theorem snocInd {α : Type} {P : List α → Prop} (h0 : P []) (hs : ∀ l r, P l → P (l ++ [r])) : ∀ l, P l := by
  intro l
  have h : ∀ n (l : List α), l.length = n → P l := by
    intro n
    induction n with
    | zero => intro l e; rw [List.length_eq_zero_iff.mp e]; exact h0
    | succ n ih =>
      intro l e
      have hne : l ≠ [] := by intro z; rw [z] at e; cases e
      rw [← List.dropLast_concat_getLast hne]
      exact hs _ _ (ih _ (by rw [List.length_dropLast, e]; rfl))
  exact h _ l rfl
abbrev Th := Str × Str
def firstOf (c : List Str) (ts : List Th) : Option Th := c.findSome? fun k => ts.find? fun t => decide (t.2 = k)
def step (ts : List Th) : Row → List Th × Option Str
  | .put n k => (ts ++ [(n, k)], none)
  | .drop n => (ts.filter fun t => !decide (t.1 = n), none)
  | .call c => match firstOf c ts with
    | none => (ts, none)
    | some t => (ts.filter fun u => !decide (u = t), some t.1)
theorem step_none {c : List Str} {ts : List Th} (h : firstOf c ts = none) : step ts (.call c) = (ts, none) := by
  show (match firstOf c ts with | none => (ts, none) | some t => (ts.filter fun u => !decide (u = t), some t.1)) = _
  rw [h]
theorem step_some {c : List Str} {ts : List Th} {t : Th} (h : firstOf c ts = some t) : step ts (.call c) = (ts.filter fun u => !decide (u = t), some t.1) := by
  show (match firstOf c ts with | none => (ts, none) | some t => (ts.filter fun u => !decide (u = t), some t.1)) = _
  rw [h]
def runT (log : List Row) : List Th := log.foldl (fun ts r => (step ts r).1) []
theorem runT_nil : runT [] = [] := rfl
theorem runT_snoc (l : List Row) (r : Row) : runT (l ++ [r]) = (step (runT l) r).1 := by
  unfold runT
  rw [List.foldl_append]
  rfl
theorem runT_take {log : List Row} {i : Nat} {r : Row} (h : log[i]? = some r) : runT (log.take (i + 1)) = (step (runT (log.take i)) r).1 := by
  rw [List.take_add_one, h]
  exact runT_snoc _ _
def Row.name? : Row → Option Str
  | .put n _ => some n
  | _ => none
def putNames (log : List Row) : List Str := log.filterMap Row.name?
theorem putNames_snoc (l : List Row) (r : Row) : putNames (l ++ [r]) = putNames l ++ r.name?.toList := by
  unfold putNames
  rw [List.filterMap_append]
  cases r <;> rfl
theorem putNames_take (log : List Row) (i : Nat) : (putNames (log.take i)).Sublist (putNames log) := (List.take_sublist i log).filterMap _
structure RowOk (ks : List Str) (cs : List (List Str)) (r : Row) : Prop where
  put : ∀ n k, r = .put n k → Nm n ∧ k ∈ ks
  call : ∀ c, r = .call c → c ∈ cs
  drop : ∀ n, r = .drop n → Nm n
structure LogOk (ks : List Str) (cs : List (List Str)) (log : List Row) : Prop where
  rows : ∀ r ∈ log, RowOk ks cs r
  nd : (putNames log).Nodup
  len : log.length ≤ 200
theorem LogOk.row {ks : List Str} {cs : List (List Str)} {log : List Row} (h : LogOk ks cs log) {i : Nat} {r : Row} (e : log[i]? = some r) : RowOk ks cs r := h.rows r (List.mem_of_getElem? e)
theorem LogOk.take {ks : List Str} {cs : List (List Str)} {log : List Row} (h : LogOk ks cs log) (n : Nat) : LogOk ks cs (log.take n) :=
  ⟨fun r m => h.rows r (List.mem_of_mem_take m), h.nd.sublist (putNames_take log n), by rw [List.length_take]; have := h.len; omega⟩
theorem LogOk.nil {ks : List Str} {cs : List (List Str)} : LogOk ks cs [] := ⟨by simp, List.nodup_nil, by decide⟩
theorem filter_map_sub {ts : List Th} {p : Th → Bool} : ((ts.filter p).map (·.1)).Sublist (ts.map (·.1)) := List.Sublist.map _ List.filter_sublist
theorem run_sub : ∀ log : List Row, ((runT log).map (·.1)).Sublist (putNames log) := by
  refine snocInd ?_ ?_
  · exact List.Sublist.refl _
  · intro l r ih
    rw [runT_snoc, putNames_snoc]
    cases r with
    | put n k =>
      show ((runT l ++ [(n, k)]).map (·.1)).Sublist (putNames l ++ [n])
      rw [List.map_append]
      exact ih.append (List.Sublist.refl _)
    | drop n =>
      show (((runT l).filter _).map (·.1)).Sublist (putNames l ++ [])
      rw [List.append_nil]
      exact filter_map_sub.trans ih
    | call c =>
      show (((step (runT l) (.call c)).1).map (·.1)).Sublist (putNames l ++ [])
      rw [List.append_nil]
      cases e : firstOf c (runT l) with
      | none => rw [step_none e]; exact ih
      | some t => rw [step_some e]; exact filter_map_sub.trans ih
theorem nodup_of_fst {ts : List Th} (h : (ts.map (·.1)).Nodup) : ts.Nodup := by
  rw [List.nodup_iff_pairwise_ne] at *
  rw [List.pairwise_map] at h
  exact h.imp fun h e => h (by rw [e])
theorem LogOk.things {ks : List Str} {cs : List (List Str)} {log : List Row} (h : LogOk ks cs log) : (runT log).Nodup := nodup_of_fst (h.nd.sublist (run_sub log))
theorem run_kinds {ks : List Str} {cs : List (List Str)} : ∀ (log : List Row), (∀ r ∈ log, RowOk ks cs r) → ∀ t ∈ runT log, t.2 ∈ ks := by
  refine snocInd ?_ ?_
  · intro _ t h; simp [runT] at h
  · intro l r ih h t m
    have ih := ih fun r hr => h r (List.mem_append_left _ hr)
    have hr := h r (by simp)
    rw [runT_snoc] at m
    cases r with
    | put n k =>
      rcases List.mem_append.mp m with m | m
      · exact ih t m
      · rw [List.mem_singleton] at m
        subst m
        exact (hr.put n k rfl).2
    | drop n => exact ih t (List.mem_filter.mp m).1
    | call c =>
      cases e : firstOf c (runT l) with
      | none => rw [step_none e] at m; exact ih t m
      | some t' => rw [step_some e] at m; exact ih t (List.mem_filter.mp m).1
theorem firstOf_mem {c : List Str} {ts : List Th} {t : Th} (h : firstOf c ts = some t) : t ∈ ts ∧ t.2 ∈ c := by
  unfold firstOf at h
  obtain ⟨k, hk, hf⟩ := List.exists_of_findSome?_eq_some h
  have h1 := List.mem_of_find?_eq_some hf
  have h2 := List.find?_some hf
  refine ⟨h1, ?_⟩
  have : t.2 = k := by simpa using h2
  rw [this]; exact hk
/-! ### what a log tells -/
/-- whom the call at i takes -/
def toldAt (log : List Row) (i : Nat) : Option Str := match log[i]? with
  | some r => (step (runT (log.take i)) r).2
  | none => none
def Row.isCall : Row → Bool
  | .call _ => true
  | _ => false
def tellRow (log : List Row) (i : Nat) : Option (Nat × Option Str) := match log[i]? with
  | some (.call _) => some (i, toldAt log i)
  | _ => none
def toldL (log : List Row) (n : Nat) : List (Nat × Option Str) := (List.range n).filterMap (tellRow log)
def putRow (log : List Row) (i : Nat) : Option (Str × Nat) := match log[i]? with
  | some (.put n _) => some (n, i)
  | _ => none
def putL (log : List Row) (n : Nat) : List (Str × Nat) := (List.range n).filterMap (putRow log)
def putIx (log : List Row) (n : Str) : Nat := (((putL log log.length).find? fun p => decide (p.1 = n)).map (·.2)).getD 0
def takenL (log : List Row) : List (Nat × Nat) := (toldL log log.length).filterMap fun p => p.2.map fun n => (p.1, putIx log n)
def cnt (log : List Row) (n : Nat) : Nat := ((List.range n).filter fun i => (toldAt log i).isSome).length
def servedL (log : List Row) (n : Nat) : List Int := (List.range (n + 1)).map fun i => ((cnt log i : Nat) : Int)
def oV : Option Str → V
  | none => .non
  | some x => .str x
def toldK (l : List (Nat × Option Str)) : List (Key × V) := l.map fun p => (.inl (p.1 : Int), oV p.2)
def putK' (l : List (Str × Nat)) : List (Key × V) := l.map fun p => (.inr p.1, .int (p.2 : Int))
def takenK (l : List (Nat × Nat)) : List (Key × V) := l.map fun p => (.inl (p.1 : Int), .int (p.2 : Int))
def cntK (ts : List Th) (k : Str) : Nat := (ts.filter fun t => decide (t.2 = k)).length
def amK (sk : List Str) (ts : List Th) : List (Key × V) := sk.map fun k => (.inr k, .int (cntK ts k : Int))
end CB
set_option Elab.async false
set_option linter.all false
set_option maxRecDepth 100000
set_option maxHeartbeats 4000000
/-! methods of a class with slots by what they promise; instances made -/
namespace CB
open PySem PySem.Spec
open PyProof.Rows L2
structure MDef (K : PySem.W.Frag) (C : Addr) (m q : Str) (st : Stmt) (ps : List Str) : Prop where
  ex : ∃ g fd, Fun K m q st g fd ∧ Meth K C m g ∧ Binds K fd ps []
structure MCal (P : Program) (w : World) (K : PySem.W.Frag) (mg : Str → Option Value) (base : Heap) (C : Addr) (m : Str) (ps : List Str) (k : Nat) (sp : Sp) : Prop where
  ex : ∃ g fd, Meth K C m g ∧ FnOk P w K mg base CX0 k g fd ps sp ∧ Binds K fd ps []
section
variable {P : Program} {w : World} {K : PySem.W.Frag} {mg : Str → Option Value} {base : Heap}
theorem MDef.cal {C : Addr} {m q : Str} {st : Stmt} {N ps : List Str} {k : Nat} {sp : Sp} (D : MDef K C m q st ps)
    (S : FnScope N ps (defScope st)) (len : ∀ vs H Q E, sp vs H Q E → vs.length = ps.length)
    (hbody : ∀ (f : Addr) (cdv : Value) (A : Around) (outer : List Env) (s : Shared) (H : Hp) (vs : List V)
      (Q : VK) (E : XK), Room k (A.deeper (envOfC q (defScope st) s.heap.objs.size f cdv)) → sp vs H Q E →
      ∃ t, PSs (cxOf CX0 P w K mg base N q (defScope st) f cdv A outer s H E).nox (defBody st) t ∧
        t { nx := fun _ H' => Q .non H', rt := Q } (start N vs) H) :
    MCal P w K mg base C m ps (k + 1) sp := by
  obtain ⟨g, fd, F, h, b⟩ := D.ex
  exact ⟨g, fd, h, F.ok S len (hbody g), b⟩
theorem MCal.mono {C : Addr} {m : Str} {ps : List Str} {j k : Nat} {sp : Sp} (c : MCal P w K mg base C m ps j sp) (h : j ≤ k) : MCal P w K mg base C m ps k sp := by
  obtain ⟨g, fd, a, F, b⟩ := c.ex
  exact ⟨g, fd, a, F.mono h, b⟩
end
section
variable {X : Cx} {C : Addr} {m : Str} {ps : List Str} {k : Nat} {sp : Sp} {p pos apos : Pos} {o e : Expr} {es : List Expr} {ta : TE} {t : TA}
theorem raw_of {P : Program} {w : World} {K : PySem.W.Frag} {mg : Str → Option Value} {base : Heap} {g : Addr} {fd : FuncData} (F : FnOk P w K mg base CX0 k g fd ps sp) (b : Binds K fd ps []) : FnR P w K mg base CX0 k g sp :=
  (F.raw b .nil).imp fun vs H Q E h => by rw [List.append_nil]; exact h
theorem pe_mcal (M : MCal X.prog X.w X.K X.mg X.base C m ps k sp) (hr : Room k X.A) (c : SlX.SCls X.K C) {pl : Sem Bool} (he : PE X o ta) (ha : PA X (e :: es) t)
    (hst : starEach (e :: es) X.env = (false, eval e X.env) :: starEach es X.env := by rfl) (hpl : (backTo pos (starEach es X.env)).any (·.1) = false := by rfl)
    (ht : eval (.Call (.Attribute o m apos) (e :: es) [] pos) X.env = (do
      let ov ← eval o X.env
      standAt apos.atName
      let (f, first) ← holding [ov] (getMethod ov m pl)
      callWith pos f first (backTo pos (starEach (e :: es) X.env)) (backToKw pos (keywordEach [] X.env))) := by rfl) :
    PE X (.Call (.Attribute o m apos) (e :: es) [] pos) (SlX.tMethSl C sp E0 ta t) := by
  obtain ⟨g, fd, h, F, b⟩ := M.ex
  exact SlX.pe_methSl he c h (raw_of F b) hr pass0 ha hst hpl ht
theorem pe_mcal0 (M : MCal X.prog X.w X.K X.mg X.base C m ps k sp) (hr : Room k X.A) (c : SlX.SCls X.K C) {pl : Sem Bool} (he : PE X o ta)
    (ht : eval (.Call (.Attribute o m apos) [] [] pos) X.env = (do
      let ov ← eval o X.env
      standAt apos.atName
      let (f, first) ← holding [ov] (getMethod ov m pl)
      callWith pos f first (backTo pos (starEach [] X.env)) (backToKw pos (keywordEach [] X.env))) := by rfl) :
    PE X (.Call (.Attribute o m apos) [] [] pos) (SlX.tMethSl C sp E0 ta tNil) := by
  obtain ⟨g, fd, h, F, b⟩ := M.ex
  exact SlX.pe_methSl0 he c h (raw_of F b) hr pass0 ht
/-- C(..): a new instance -/
def tMk (C : Addr) (sp : Sp) (t : TA) : TE := fun σ H Q => t σ H fun vs H1 => ∀ x dx, H1 x = none → H1 dx = none → dx ≠ x →
  sp (.ref x :: vs) (upd (upd H1 dx (.own x)) x (.ins C dx [])) (fun v H2 => v = .non ∧ Q (.ref x) H2) E0
theorem pe_mk {x : Str} (M : MCal X.prog X.w X.K X.mg X.base C "__init__" ps k sp) (hr : Room (k + 1) X.A) (mk : PySem.W.makesIn X.K C = true) (kp : PySem.W.keepIn X.K (.ref C) = true)
    (hm : X.mg x = some (.ref C)) (ha : PA X (e :: es) t) (hg : Gl X x := by rfl) (hdb : (x == ("__debug__" : Str)) = false := by decide)
    (he : starEach (e :: es) X.env = (false, eval e X.env) :: starEach es X.env := by rfl) (hpl : (backTo pos (starEach es X.env)).any (·.1) = false := by rfl) :
    PE X (.Call (.Name x p) (e :: es) [] pos) (tMk C sp t) := by
  obtain ⟨g, fd, h, F, b⟩ := M.ex
  have q := pe_make (p := p) (pos := pos) (M := ⟨mk, h.at_, h.fn, kp⟩) F hr hg hm b .nil pass0 ha hdb he hpl
  have e1 : tMake C sp [] E0 t = tMk C sp t := by
    funext σ H Q
    show t σ H (fun vs H1 => ∀ x dx, H1 x = none → H1 dx = none → dx ≠ x → sp (.ref x :: (vs ++ [])) _ _ E0) = t σ H _
    simp only [List.append_nil]
  rw [e1] at q
  exact q
end
/-- the class Store as the top has written it -/
structure StC (K : PySem.W.Frag) (mg : Str → Option Value) (C p0 p1 p2 p3 : Addr) : Prop where
  c : SlX.SCls K C
  s0 : SlX.Slot1 K C "its_house" p0 0
  s1 : SlX.Slot1 K C "its_names" p1 1
  s2 : SlX.Slot1 K C "its_rows" p2 2
  s3 : SlX.Slot1 K C "its_things" p3 3
  makes : PySem.W.makesIn K C = true
  kp : PySem.W.keepIn K (.ref C) = true
  nm : mg "Store" = some (.ref C)
end CB
set_option Elab.async false
set_option linter.all false
set_option maxRecDepth 100000
set_option maxHeartbeats 4000000
namespace CB
open PySem PySem.Spec
open PyProof.Rows L2
open PySem.W (Datum Tup DatumOrd)
open SlX (Slt slH slH_slt slH_twice putS)
theorem off_wr {H : Hp} {S : List Addr} {p : Addr} {o : HO} (h : p ∈ S) : Same (off H S) (off (upd H p o) S) := by
  intro c u e
  obtain ⟨n, e⟩ := off_some e
  exact off_of n (by rw [upd_ne (fun z => n (by rw [z]; exact h))]; exact e)
theorem off_new {H : Hp} {S : List Addr} {p : Addr} {o : HO} (h : H p = none) : Same (off H S) (off (upd H p o) S) := by
  intro c u e
  obtain ⟨n, e⟩ := off_some e
  exact off_of n (by rw [upd_ne (ne_of_none e h)]; exact e)
theorem off_same {H H' : Hp} {S : List Addr} (h : Same H H') : Same (off H S) (off H' S) := by
  intro c u e
  obtain ⟨n, e⟩ := off_some e
  exact off_of n (h _ _ e)
/-- all that A has is off S -/
theorem off_free {A H : Hp} {S : List Addr} (k : Same A H) (h : ∀ y ∈ S, A y = none) : Same A (off H S) := by
  intro c u e
  refine off_of (fun z => ?_) (k _ _ e)
  rw [h c z] at e
  cases e
theorem slt_same {H H' : Hp} {a C dx : Addr} {vs : List (Option V)} (h : Slt H a C dx vs) (k : Same H H') : Slt H' a C dx vs := by
  rcases h with ⟨h1, h2⟩ | ⟨h1, h2⟩
  · exact .inl ⟨k _ _ h1, h2⟩
  · exact .inr ⟨k _ _ h1, k _ _ h2⟩
theorem slt_upd {H : Hp} {a C dx p : Addr} {o : HO} {vs : List (Option V)} (h : Slt H a C dx vs) (n1 : p ≠ a) (n2 : p ≠ dx) : Slt (upd H p o) a C dx vs := by
  rcases h with ⟨h1, h2⟩ | ⟨h1, h2⟩
  · exact .inl ⟨by rw [upd_ne (Ne.symm n1)]; exact h1, h2⟩
  · exact .inr ⟨by rw [upd_ne (Ne.symm n1)]; exact h1, by rw [upd_ne (Ne.symm n2)]; exact h2⟩
theorem slt_some {H : Hp} {a C dx : Addr} {v : Option V} {vs : List (Option V)} (h : Slt H a C dx (v :: vs)) : ∃ o, H a = some o ∧ ∃ o', H dx = some o' := by
  rcases h with ⟨_, h2⟩ | ⟨h1, h2⟩
  · cases h2
  · exact ⟨_, h1, _, h2⟩
/-- the store at a: its house, rows, things and names; S are the addresses that are its own -/
def StP (K : PySem.W.Frag) (C : Addr) (H : Hp) (a dx R T N : Addr) (ks : List Str) (cs : List (List Str)) (rows : List Row) (things : List Th) (names : List Str) (hv : V) (rs ts : List V) (kvs : List (Key × V)) : Prop :=
  Slt H a C dx [some hv, some (.ref N), some (.ref R), some (.ref T)] ∧ Hd K (off H [a, dx, R, T, N]) hv (hs ks cs) ∧
  H R = some (.lst rs) ∧ HdAll K (off H [a, dx, R, T, N]) rs rows ∧ H T = some (.lst ts) ∧ HdAll K (off H [a, dx, R, T, N]) ts things ∧
  H N = some (.dK kvs) ∧ kvs.map (·.1) = names.map Sum.inr
def St (K : PySem.W.Frag) (C : Addr) (H : Hp) (S : List Addr) (a : Addr) (ks : List Str) (cs : List (List Str)) (rows : List Row) (things : List Th) (names : List Str) : Prop :=
  ∃ dx R T N hv rs ts kvs, S = [a, dx, R, T, N] ∧ S.Nodup ∧ StP K C H a dx R T N ks cs rows things names hv rs ts kvs
section
variable {K : PySem.W.Frag} {C : Addr} {H H' : Hp} {S : List Addr} {a : Addr} {ks : List Str} {cs : List (List Str)} {rows : List Row} {things : List Th} {names : List Str}
theorem St.same (h : St K C H S a ks cs rows things names) (k : Same H H') : St K C H' S a ks cs rows things names := by
  obtain ⟨dx, R, T, N, hv, rs, ts, kvs, rfl, nd, h1, h2, h3, h4, h5, h6, h7, h8⟩ := h
  exact ⟨dx, R, T, N, hv, rs, ts, kvs, rfl, nd, slt_same h1 k, Dp.mono (off_same k) h2, k _ _ h3, DpAll.mono (off_same k) h4, k _ _ h5, DpAll.mono (off_same k) h6, k _ _ h7, h8⟩
theorem St.some (h : St K C H S a ks cs rows things names) : ∀ y ∈ S, ∃ o, H y = some o := by
  obtain ⟨dx, R, T, N, hv, rs, ts, kvs, rfl, nd, h1, h2, h3, h4, h5, h6, h7, h8⟩ := h
  obtain ⟨o, e1, o', e2⟩ := slt_some h1
  intro y hy
  simp only [List.mem_cons, List.not_mem_nil, or_false] at hy
  rcases hy with rfl | rfl | rfl | rfl | rfl
  · exact ⟨_, e1⟩
  · exact ⟨_, e2⟩
  · exact ⟨_, h3⟩
  · exact ⟨_, h5⟩
  · exact ⟨_, h7⟩
end
/-- S' are the addresses of S, or new -/
def Fr (S S' : List Addr) (H : Hp) : Prop := ∀ y ∈ S', y ∈ S ∨ H y = none
theorem Fr.refl (S : List Addr) (H : Hp) : Fr S S H := fun y h => .inl h
/-- the heap behind a store's method: A, which knows nothing of the store, stays -/
theorem st_next {A H H' : Hp} {S S' : List Addr} (h : Same A H) (n : ∀ y ∈ S, A y = none) (k : Kp S H H') (f : Fr S S' H) : Same A H' ∧ ∀ y ∈ S', A y = none := by
  refine ⟨fun c o e => k c o (fun z => by rw [n c z] at e; cases e) (h _ _ e), fun y hy => ?_⟩
  rcases f y hy with q | q
  · exact n y q
  · exact Same.free h q
section
variable {P : Program} {w : World} {K : PySem.W.Frag} {mg : Str → Option Value} {base : Heap} {C p0 p1 p2 p3 : Addr}
/-! ### __init__ -/
def spInit (K : PySem.W.Frag) (C : Addr) : Sp := fun vs H Q _ => ∃ (x dx : Addr) (hv : V) (ks : List Str) (cs : List (List Str)) (H1 : Hp), vs = [.ref x, hv] ∧
  H = upd (upd H1 dx (.own x)) x (.ins C dx []) ∧ H1 x = none ∧ H1 dx = none ∧ dx ≠ x ∧ Hd K H1 hv (hs ks cs) ∧ VH ks cs ∧
  ∀ H' S, St K C H' S x ks cs [] [] [] → Same H1 H' → (∀ y ∈ S, H1 y = none) → Q .non H'
abbrev s_St_init : Stmt := inClass (topS 22) 1
abbrev p_St_init : List Str := ["self", "house"]
theorem sc_St_init : FnScope ["self", "house"] ["self", "house"] (defScope s_St_init) := ⟨rfl, rfl, rfl, by decide +kernel, rfl, by decide +kernel, by decide +kernel⟩
theorem m_init (D : MDef K C "__init__" "Store.__init__" s_St_init p_St_init) (SC : StC K mg C p0 p1 p2 p3) (B : Blt mg) (C_is_house : Cal P w K mg base "is_house" p_is_house 3 (spHouse K)) :
    MCal P w K mg base C "__init__" p_St_init 4 (spInit K C) := by
  refine D.cal sc_St_init (fun vs H Q E h => ?_) (fun f cdv A outer s H vs Q E hr h => ?_)
  · obtain ⟨x, dx, hv, ks, cs, H1, rfl, _⟩ := h; rfl
  · obtain ⟨x, dx, hv, ks, cs, H1, rfl, rfl, nx, nd, ne, hh, vh, q⟩ := h
    refine ⟨_, (pss_cons (ps_if (pt_not (pt_val (pe_cal C_is_house hr (pa_cons (pv 1) pa_nil))))
  pss_never
  pss_nil)
  (pss_one (ps_asg (pe_tup (pa_cons (pv 1) (pa_cons (pe_lst pa_nil) (pa_cons (pe_lst pa_nil) (pa_cons pe_dnewK pa_nil))))) (k_tup K (n := 4) rfl (pgs_cons (pg_sl (pv 0)) (pgs_cons (pg_sl (pv 0)) (pgs_cons (pg_sl (pv 0)) (pgs_cons (pg_sl (pv 0)) pgs_nil)))))))), ?_⟩
    have s1 : Same H1 (upd (upd H1 dx (.own x)) x (.ins C dx [])) := by
      intro c o e
      rw [upd_ne (ne_of_none e nx), upd_ne (ne_of_none e nd)]
      exact e
    have ex : (upd (upd H1 dx (.own x)) x (.ins C dx [])) x = some (.ins C dx []) := upd_same
    have ed : (upd (upd H1 dx (.own x)) x (.ins C dx [])) dx = some (.own x) := by rw [upd_ne ne, upd_same]
    revert s1 ex ed
    generalize upd (upd H1 dx (.own x)) x (.ins C dx []) = H2
    intro s1 ex ed
    refine ⟨hv, rfl, hv, ks, cs, rfl, Dp.mono s1 hh, vh, fun H3 s3 => ⟨true, rfl, iteF ?_⟩⟩
    have ex := s3 _ _ ex
    have ed := s3 _ _ ed
    refine ⟨hv, rfl, ⟨by decide, fun R nR => ⟨by decide, fun T nT N nN => ?_⟩⟩⟩
    obtain ⟨nTR, nT⟩ := up_none nT
    obtain ⟨nNT, nN⟩ := up_none nN
    obtain ⟨nNR, nN⟩ := up_none nN
    refine ⟨len_ok (by simp), fun p np => ?_⟩
    obtain ⟨npN, np⟩ := up_none np
    obtain ⟨npT, np⟩ := up_none np
    obtain ⟨npR, np⟩ := up_none np
    have xR := ne_of_none ex nR
    have xT := ne_of_none ex nT
    have xN := ne_of_none ex nN
    have xp := ne_of_none ex np
    have dR := ne_of_none ed nR
    have dT := ne_of_none ed nT
    have dN := ne_of_none ed nN
    have dp := ne_of_none ed np
    generalize hG : upd (upd (upd (upd H3 R (.lst [])) T (.lst [])) N (.dK [])) p (.tup [hv, .ref R, .ref T, .ref N]) = G
    have gp : G p = some (.tup [hv, .ref R, .ref T, .ref N]) := by rw [← hG]; exact upd_same
    have gx : G x = some (.ins C dx []) := by rw [← hG]; simp [upd, xR, xT, xN, xp]; exact ex
    have gR : G R = some (.lst []) := by rw [← hG]; simp [upd, npR.symm, nNR.symm, nTR.symm]
    have gT : G T = some (.lst []) := by rw [← hG]; simp [upd, npT.symm, nNT.symm]
    have gN : G N = some (.dK []) := by rw [← hG]; simp [upd, npN.symm]
    have sG : Same H3 G := by
      intro c o e
      have := ne_of_none e nR
      have := ne_of_none e nT
      have := ne_of_none e nN
      have := ne_of_none e np
      rw [← hG]
      simp [upd, *]
    have s13 : Same H1 G := s1.trans (s3.trans sG)
    refine ⟨p, _, rfl, sqt_of gp, rfl, hv, _, rfl, ?_⟩
    refine ⟨.ref x, rfl, x, C, dx, p0, [], 0, rfl, .inl ⟨gx, rfl⟩, SC.c, SC.s0, .ref R, _, rfl, ?_⟩
    refine ⟨.ref x, rfl, x, C, dx, p2, _, 2, rfl, slH_slt ne, SC.c, SC.s2, .ref T, _, rfl, ?_⟩
    rw [slH_twice ne]
    refine ⟨.ref x, rfl, x, C, dx, p3, _, 3, rfl, slH_slt ne, SC.c, SC.s3, .ref N, _, rfl, ?_⟩
    rw [slH_twice ne]
    refine ⟨.ref x, rfl, x, C, dx, p1, _, 1, rfl, slH_slt ne, SC.c, SC.s1, rfl, ?_⟩
    rw [slH_twice ne]
    have hsl : Slt (slH G x C dx [some hv, some (.ref N), some (.ref R), some (.ref T)]) x C dx [some hv, some (.ref N), some (.ref R), some (.ref T)] := slH_slt ne
    show Q .non (slH G x C dx [some hv, some (.ref N), some (.ref R), some (.ref T)])
    have sF : Same H1 (slH G x C dx [some hv, some (.ref N), some (.ref R), some (.ref T)]) := by
      intro c o e
      rw [SlX.slH_ne (ne_of_none e nx) (ne_of_none e nd)]
      exact s13 _ _ e
    have fr : ∀ y ∈ [x, dx, R, T, N], H1 y = none := by
      intro y hy
      simp only [List.mem_cons, List.not_mem_nil, or_false] at hy
      rcases hy with rfl | rfl | rfl | rfl | rfl
      · exact nx
      · exact nd
      · exact (s1.trans s3).free nR
      · exact (s1.trans s3).free nT
      · exact (s1.trans s3).free nN
    refine q _ [x, dx, R, T, N] ⟨dx, R, T, N, hv, [], [], [], rfl, ?_, hsl, Dp.mono (off_free sF fr) hh, ?_, .nil, ?_, .nil, ?_, rfl⟩ sF fr
    · simp [ne.symm, xR, xT, xN, dR, dT, dN, nTR.symm, nNR.symm, nNT.symm]
    · rw [SlX.slH_ne xR.symm dR.symm]; exact gR
    · rw [SlX.slH_ne xT.symm dT.symm]; exact gT
    · rw [SlX.slH_ne xN.symm dN.symm]; exact gN
end
end CB
set_option Elab.async false
set_option linter.all false
set_option maxRecDepth 100000
set_option maxHeartbeats 4000000
namespace CB
open PySem PySem.Spec
open PyProof.Rows L2
open PySem.W (Datum Tup DatumOrd)
open SlX (Slt slH slH_slt slH_twice putS)
section
variable {P : Program} {w : World} {K : PySem.W.Frag} {mg : Str → Option Value} {base : Heap} {C p0 p1 p2 p3 : Addr}
instance : Inhabited Th := ⟨("", "")⟩
theorem nd5 {a dx R T N : Addr} (h : [a, dx, R, T, N].Nodup) : a ≠ dx ∧ a ≠ R ∧ a ≠ T ∧ a ≠ N ∧ dx ≠ R ∧ dx ≠ T ∧ dx ≠ N ∧ R ≠ T ∧ R ≠ N ∧ T ≠ N := by
  simp only [List.nodup_cons, List.mem_cons, List.not_mem_nil, or_false, not_or] at h
  obtain ⟨⟨h1, h2, h3, h4⟩, ⟨h5, h6, h7⟩, ⟨h8, h9⟩, h10, _⟩ := h
  exact ⟨h1, h2, h3, h4, h5, h6, h7, h8, h9, h10⟩
theorem row_put {H : Hp} {a : Addr} {x y z : V} {n k : Str} (h : SqT K H a [.str "put", .str n, .str k]) : Hd K H (.ref a) (Row.put n k) :=
  Dp.tup h (.cons (.str _) (.cons (.str _) (.cons (.str _) .nil)))
theorem row_drop {H : Hp} {a : Addr} {n : Str} (h : SqT K H a [.str "drop", .str n]) : Hd K H (.ref a) (Row.drop n) :=
  Dp.tup h (.cons (.str _) (.cons (.str _) .nil))
theorem row_call {H : Hp} {a : Addr} {u : V} {c : List Str} (h : SqT K H a [.str "call", u]) (hu : Hd K H u (Tup.mk c)) : Hd K H (.ref a) (Row.call c) :=
  Dp.tup h (.cons (.str _) (.cons hu .nil))
/-! ### put -/
def spPut (K : PySem.W.Frag) (C : Addr) : Sp := fun vs H Q _ => ∃ (a : Addr) (S : List Addr) (ks : List Str) (cs : List (List Str)) (rows : List Row) (things : List Th) (names : List Str) (n k : Str),
  vs = [.ref a, .str n, .str k] ∧ St K C H S a ks cs rows things names ∧ Nm n ∧ k ∈ ks ∧ n ∉ names ∧ rows.length ≤ 500 ∧ things.length ≤ 500 ∧ names.length ≤ 500 ∧
  ∀ H', St K C H' S a ks cs (rows ++ [.put n k]) (things ++ [(n, k)]) (names ++ [n]) → Kp S H H' → Q .non H'
theorem valV_names {kvs : List (Key × V)} {names : List Str} {n : Str} (h : kvs.map (·.1) = names.map Sum.inr) (hn : n ∉ names) : valV kvs (.inr n) = none := by
  cases e : valV kvs (.inr n) with
  | none => rfl
  | some v =>
    have := valV_in e
    rw [h] at this
    obtain ⟨m, hm, e⟩ := List.mem_map.mp this
    cases e
    exact absurd hm hn
abbrev s_St_put : Stmt := inClass (topS 22) 2
abbrev p_St_put : List Str := ["self", "name", "kind"]
theorem sc_St_put : FnScope ["self", "name", "kind"] ["self", "name", "kind"] (defScope s_St_put) := ⟨rfl, rfl, rfl, by decide +kernel, rfl, by decide +kernel, by decide +kernel⟩
theorem m_put (D : MDef K C "put" "Store.put" s_St_put p_St_put) (SC : StC K mg C p0 p1 p2 p3) (B : Blt mg) (C_is_name : Cal P w K mg base "is_name" p_is_name 1 spName)
    (C_is_kind : Cal P w K mg base "is_kind" p_is_kind 1 (spIsKind K)) : MCal P w K mg base C "put" p_St_put 2 (spPut K C) := by
  refine D.cal sc_St_put (fun vs H Q E h => ?_) (fun f cdv A outer s H vs Q E hr h => ?_)
  · obtain ⟨a, S, ks, cs, rows, things, names, n, k, rfl, _⟩ := h; rfl
  · obtain ⟨a, S, ks, cs, rows, things, names, n, k, rfl, hs0, hn, hk, hnn, l1, l2, l3, q⟩ := h
    refine ⟨_, (pss_cons (ps_if (pt_not (pt_val (pe_cal C_is_name hr (pa_cons (pv 1) pa_nil))))
  pss_never
  pss_nil)
  (pss_cons (ps_if (pt_not (pt_val (pe_cal C_is_kind hr (pa_cons (k_sl K (pv 0)) (pa_cons (pv 2) pa_nil)))))
  pss_never
  pss_nil)
  (pss_cons (ps_if (pt_cmp (pc_din (hu_of hr) (pv 1) (k_sl K (pv 0))))
  pss_never
  pss_nil)
  (pss_cons (ps_dput (hu_of hr) (k_sl K (pv 0)) (pv 1) pe_bl rfl)
  (pss_cons (ps_expr (k_bm K PySem.F.plainAttrs_list PySem.F.slot_list_append PySem.F.type_list_append mt_append (k_sl K (pv 0)) (pa_cons (pe_tup (pa_cons (pv 1) (pa_cons (pv 2) pa_nil))) pa_nil)))
  (pss_one (ps_expr (k_bm K PySem.F.plainAttrs_list PySem.F.slot_list_append PySem.F.type_list_append mt_append (k_sl K (pv 0)) (pa_cons (pe_tup (pa_cons pe_str (pa_cons (pv 1) (pa_cons (pv 2) pa_nil)))) pa_nil))))))))), ?_⟩
    refine ⟨.str n, rfl, n, rfl, hn, fun H1 s1 => ⟨true, rfl, iteF ?_⟩⟩
    obtain ⟨dx, R, T, N, hv, rs, ts, kvs, rfl, nd, hsl, hh, hR, hrs, hT, hts, hN, hks⟩ := hs0.same s1
    obtain ⟨ad, aR, aT, aN, dR, dT, dN, RT, RN, TN⟩ := nd5 nd
    refine ⟨.ref a, rfl, a, C, dx, p0, _, 0, hv, rfl, hsl, SC.c, SC.s0, rfl, .str k, rfl, hv, k, ks, cs, rfl, Dp.mono off_le hh, hk, fun H2 s2 => ⟨true, rfl, iteF ?_⟩⟩
    obtain ⟨o1, e1, o2, e2⟩ := slt_some hsl
    have hsl := slt_same hsl s2
    have hh := Dp.mono (off_same s2) hh
    have hR := s2 _ _ hR
    have hrs := DpAll.mono (off_same s2) hrs
    have hT := s2 _ _ hT
    have hts := DpAll.mono (off_same s2) hts
    have hN := s2 _ _ hN
    have e1 := s2 _ _ e1
    have e2 := s2 _ _ e2
    refine ⟨.str n, rfl, .ref a, rfl, a, C, dx, p1, _, 1, .ref N, rfl, hsl, SC.c, SC.s1, rfl, N, none, rfl, ?_, _, rfl, iteF ?_⟩
    · have := DGet.k (k := .inr n) hN
      rw [valV_names hks hnn] at this
      exact this
    have kl : kvs.length = names.length := by
      have := congrArg List.length hks
      rwa [List.length_map, List.length_map] at this
    refine ⟨.ref a, rfl, a, C, dx, p1, _, 1, .ref N, rfl, hsl, SC.c, SC.s1, rfl, .str n, rfl, N, _, rfl, DPut.k (k := .inr n) hN (small1000 (by omega)), ?_⟩
    rw [putK_new _ (valV_names hks hnn)]
    generalize hG1 : upd H2 N (.dK (kvs ++ [(.inr n, .bl true)])) = G1
    have hsl1 : Slt G1 a C dx [some hv, some (.ref N), some (.ref R), some (.ref T)] := by rw [← hG1]; exact slt_upd hsl aN.symm dN.symm
    have m1 : Same (off H2 [a, dx, R, T, N]) (off G1 [a, dx, R, T, N]) := by rw [← hG1]; exact off_wr (by simp)
    have R1 : G1 R = some (.lst rs) := by rw [← hG1, upd_ne RN]; exact hR
    have T1 : G1 T = some (.lst ts) := by rw [← hG1, upd_ne TN]; exact hT
    have N1 : G1 N = some (.dK (kvs ++ [(.inr n, .bl true)])) := by rw [← hG1, upd_same]
    have k1 : Kp [a, dx, R, T, N] H2 G1 := by rw [← hG1]; exact Kp.wr (by simp)
    -- things.append
    refine ⟨.ref a, rfl, a, C, dx, p3, _, 3, .ref T, rfl, hsl1, SC.c, SC.s3, rfl, .inl ⟨rfl, _, sql_of T1⟩, .str n, rfl, .str k, rfl, len_ok (by simp), fun p np => ?_⟩
    have pT := (ne_of_none T1 np).symm
    have pR := (ne_of_none R1 np).symm
    have pN := (ne_of_none N1 np).symm
    refine ⟨T, ts, .ref p, rfl, rfl, by rw [upd_ne pT.symm]; exact T1, small1000 (by have := all_len hts; omega), ?_⟩
    have ea := k1
    generalize hG2 : upd (upd G1 p (.tup [.str n, .str k])) T (.lst (ts ++ [.ref p])) = G2
    obtain ⟨oa, ea1, od, ed1⟩ := slt_some hsl1
    have pa := (ne_of_none ea1 np).symm
    have pd := (ne_of_none ed1 np).symm
    have hsl2 : Slt G2 a C dx [some hv, some (.ref N), some (.ref R), some (.ref T)] := by rw [← hG2]; exact slt_upd (slt_upd hsl1 pa pd) aT.symm dT.symm
    have m2 : Same (off G1 [a, dx, R, T, N]) (off G2 [a, dx, R, T, N]) := by rw [← hG2]; exact (off_new np).trans (off_wr (by simp))
    have R2 : G2 R = some (.lst rs) := by rw [← hG2, upd_ne RT, upd_ne pR.symm]; exact R1
    have T2 : G2 T = some (.lst (ts ++ [.ref p])) := by rw [← hG2, upd_same]
    have N2 : G2 N = some (.dK (kvs ++ [(.inr n, .bl true)])) := by rw [← hG2, upd_ne TN.symm, upd_ne pN.symm]; exact N1
    have P2 : off G2 [a, dx, R, T, N] p = some (.tup [.str n, .str k]) := off_of (by simp [pa, pd, pR, pT, pN]) (by rw [← hG2, upd_ne pT, upd_same])
    have k2 : Kp [a, dx, R, T, N] G1 G2 := by rw [← hG2]; exact (Kp.new np).trans (Kp.wr (by simp))
    -- rows.append
    refine ⟨.ref a, rfl, a, C, dx, p2, _, 2, .ref R, rfl, hsl2, SC.c, SC.s2, rfl, .inl ⟨rfl, _, sql_of R2⟩, .str n, rfl, .str k, rfl, len_ok (by simp), fun p' np' => ?_⟩
    have pT' := (ne_of_none T2 np').symm
    have pR' := (ne_of_none R2 np').symm
    have pN' := (ne_of_none N2 np').symm
    refine ⟨R, rs, .ref p', rfl, rfl, by rw [upd_ne pR'.symm]; exact R2, small1000 (by have := all_len hrs; omega), ?_⟩
    generalize hG3 : upd (upd G2 p' (.tup [.str "put", .str n, .str k])) R (.lst (rs ++ [.ref p'])) = G3
    obtain ⟨oa', ea2, od', ed2⟩ := slt_some hsl2
    have pa' := (ne_of_none ea2 np').symm
    have pd' := (ne_of_none ed2 np').symm
    have hsl3 : Slt G3 a C dx [some hv, some (.ref N), some (.ref R), some (.ref T)] := by rw [← hG3]; exact slt_upd (slt_upd hsl2 pa' pd') aR.symm dR.symm
    have m3 : Same (off G2 [a, dx, R, T, N]) (off G3 [a, dx, R, T, N]) := by rw [← hG3]; exact (off_new np').trans (off_wr (by simp))
    have R3 : G3 R = some (.lst (rs ++ [.ref p'])) := by rw [← hG3, upd_same]
    have T3 : G3 T = some (.lst (ts ++ [.ref p])) := by rw [← hG3, upd_ne RT.symm, upd_ne pT'.symm]; exact T2
    have N3 : G3 N = some (.dK (kvs ++ [(.inr n, .bl true)])) := by rw [← hG3, upd_ne RN.symm, upd_ne pN'.symm]; exact N2
    have P3 : off G3 [a, dx, R, T, N] p' = some (.tup [.str "put", .str n, .str k]) := off_of (by simp [pa', pd', pR', pT', pN']) (by rw [← hG3, upd_ne pR', upd_same])
    have k3 : Kp [a, dx, R, T, N] G2 G3 := by rw [← hG3]; exact (Kp.new np').trans (Kp.wr (by simp))
    have m13 := m1.trans (m2.trans m3)
    refine q G3 ⟨dx, R, T, N, hv, _, _, _, rfl, nd, hsl3, Dp.mono m13 hh, R3, all_app (DpAll.mono m13 hrs) (all_one (row_put (x := .non) (y := .non) (z := .non) (sqt_of P3))), T3,
      all_app (DpAll.mono m13 hts) (all_one (hd_pair (sqt_of (m3 _ _ P2)) (hd_str n) (hd_str k))), N3, ?_⟩ ?_
    · rw [List.map_append, List.map_append, hks]; rfl
    · exact (Kp.of_same (s1.trans s2)).trans (k1.trans (k2.trans k3))
/-! ### first_of -/
theorem firstOf_at {c : List Str} {ts : List Th} {i : Nat} {k : Str} {t : Th} (h : firstOf (c.take i) ts = none) (hk : c[i]? = some k) (hf : ts.find? (fun t => decide (t.2 = k)) = some t) : firstOf c ts = some t := by
  obtain ⟨hi, e⟩ := List.getElem?_eq_some_iff.mp hk
  have e2 : c = c.take i ++ k :: c.drop (i + 1) := by
    rw [← e, ← List.drop_eq_getElem_cons hi, List.take_append_drop]
  unfold firstOf at *
  rw [e2, List.findSome?_append, h]
  simp [hf]
theorem firstOf_snoc {c : List Str} {ts : List Th} {i : Nat} {k : Str} (h : firstOf (c.take i) ts = none) (hk : c[i]? = some k) (hf : ts.find? (fun t => decide (t.2 = k)) = none) : firstOf (c.take (i + 1)) ts = none := by
  unfold firstOf at *
  rw [List.take_add_one, hk, List.findSome?_append, h]
  simp [hf]
def spFirst (K : PySem.W.Frag) (C : Addr) : Sp := fun vs H Q _ => ∃ (a : Addr) (S : List Addr) (ks : List Str) (cs : List (List Str)) (rows : List Row) (things : List Th) (names : List Str) (u : V) (c : List Str),
  vs = [.ref a, u] ∧ St K C H S a ks cs rows things names ∧ Hd K H u (Tup.mk c) ∧
  ∀ v, (firstOf c things = none → v = .non) → (∀ t, firstOf c things = some t → Hd K (off H S) v t) → Q v H
abbrev s_St_first_of : Stmt := inClass (topS 22) 3
abbrev p_St_first_of : List Str := ["self", "call"]
theorem sc_St_first_of : FnScope ["self", "call", "kind", "thing"] ["self", "call"] (defScope s_St_first_of) := ⟨rfl, rfl, rfl, by decide +kernel, rfl, by decide +kernel, by decide +kernel⟩
theorem m_first (D : MDef K C "first_of" "Store.first_of" s_St_first_of p_St_first_of) (SC : StC K mg C p0 p1 p2 p3) : MCal P w K mg base C "first_of" p_St_first_of 1 (spFirst K C) := by
  refine D.cal sc_St_first_of (fun vs H Q E h => ?_) (fun f cdv A outer s H vs Q E hr h => ?_)
  · obtain ⟨a, S, ks, cs, rows, things, names, u, c, rfl, _⟩ := h; rfl
  · obtain ⟨a, S, ks, cs, rows, things, names, u, c, rfl, hs0, hu, q⟩ := h
    refine ⟨_, (pss_cons (ps_for PassesOwn.never rfl (k_piT K (pv 1)) (pg_name (i := 2) sc_St_first_of.nd rfl (by first | exact .inl rfl | exact .inr rfl))
  (pss_one (ps_for PassesOwn.never rfl (k_piL K (k_sl K (pv 0))) (pg_name (i := 3) sc_St_first_of.nd rfl (by first | exact .inl rfl | exact .inr rfl))
  (pss_one (ps_if (pt_cmpR op_eq (pe_ix (k_ixT K) (pv 3) pe_int (fun _ _ => rfl)) (pv 2) (nomark _))
  (pss_one (ps_ret (pv 3)))
  pss_nil)))))
  (pss_one (ps_ret pe_non))), ?_⟩
    obtain ⟨dx, R, T, N, hv, rs, ts, kvs, rfl, nd, hsl, hh, hR, hrs, hT, hts, hN, hks⟩ := hs0
    obtain ⟨ua, rfl, hS⟩ := hd_strT hu
    refine ⟨.ref ua, rfl, ua, rfl, ⟨_, hS⟩, ?_⟩
    refine for_it (walk_tup (xs := c.map V.str)) (fun i σ H1 => (∃ y2 y3, σ = [some (.ref a), some (.ref ua), y2, y3]) ∧ H1 = H ∧ firstOf (c.take i) things = none) ⟨⟨none, none, rfl⟩, rfl, rfl⟩ ?_ ?_ ?_
    · rintro i σ H1 _ ⟨_, rfl, _⟩; exact hS
    · rintro i x σ H1 H2 hi ⟨⟨y2, y3, rfl⟩, rfl, hf⟩ ⟨rfl, hx⟩
      obtain ⟨k, hk, rfl⟩ := map_get hx
      refine ⟨.ref a, rfl, a, C, dx, p3, _, 3, .ref T, rfl, hsl, SC.c, SC.s3, rfl, T, rfl, ⟨_, sql_of hT⟩, ?_⟩
      refine for_it (walk_list (xs := ts)) (fun j σ H4 => (∃ y3, σ = [some (.ref a), some (.ref ua), some (.str k), y3]) ∧ H4 = H2 ∧ (things.take j).find? (fun t => decide (t.2 = k)) = none) ⟨⟨y3, rfl⟩, rfl, rfl⟩ ?_ ?_ ?_
      · rintro j σ H2 _ ⟨_, rfl, _⟩; exact sql_of hT
      · rintro j z σ H2 H3 hj ⟨⟨y3, rfl⟩, rfl, hf2⟩ ⟨rfl, hz⟩
        obtain ⟨t, ht, hd⟩ := all_get hts hz
        obtain ⟨ta, x1, x2, rfl, hta, g1, g2⟩ := hd_pair_inv hd
        cases hd_str_inv g1
        cases hd_str_inv g2
        refine ⟨.ref ta, rfl, ta, _, 1, .str t.2, rfl, rfl, off_sqt hta, atI_nat (j := 1) rfl, .str k, rfl, rfl, _, rfl, ite2 (fun hm => ?_) (fun hm => ?_)⟩
        · have hm : t.2 = k := by
            have := of_decide_eq_true hm
            cases this; rfl
          refine ⟨.ref ta, rfl, ?_⟩
          have ff : things.find? (fun t => decide (t.2 = k)) = some t := by
            obtain ⟨hjl, e⟩ := List.getElem?_eq_some_iff.mp ht
            have e2 : things = things.take j ++ t :: things.drop (j + 1) := by
              rw [← e, ← List.drop_eq_getElem_cons hjl, List.take_append_drop]
            rw [e2, List.find?_append, hf2]
            simp [hm]
          have fo := firstOf_at hf hk ff
          refine q (.ref ta) (fun z => by rw [fo] at z; cases z) (fun t' e => ?_)
          rw [fo] at e
          cases e
          exact hd
        · refine ⟨⟨_, rfl⟩, rfl, ?_⟩
          rw [List.take_add_one, ht, List.find?_append, hf2]
          have : ¬ t.2 = k := fun e => hm (by rw [e]; exact decide_eq_true rfl)
          simp [this]
      · rintro σ H2 ⟨⟨y3, rfl⟩, rfl, hf2⟩
        refine ⟨⟨_, _, rfl⟩, rfl, firstOf_snoc hf hk ?_⟩
        rw [List.take_of_length_le (by have := all_len hts; omega)] at hf2
        exact hf2
    · rintro σ H1 ⟨⟨y2, y3, rfl⟩, rfl, hf⟩
      rw [List.length_map, List.take_length] at hf
      exact q .non (fun _ => rfl) (fun t e => by rw [hf] at e; cases e)
end
end CB
set_option Elab.async false
set_option linter.all false
set_option maxRecDepth 100000
set_option maxHeartbeats 4000000
namespace CB
open PySem PySem.Spec
open PyProof.Rows L2
open PySem.W (Datum Tup DatumOrd)
open SlX (Slt slH slH_slt slH_twice putS)
section
variable {P : Program} {w : World} {K : PySem.W.Frag} {mg : Str → Option Value} {base : Heap} {C p0 p1 p2 p3 : Addr}
/-! ### take -/
theorem erase_filter {ts : List Th} (nd : ts.Nodup) : ∀ {j : Nat} {t : Th}, ts[j]? = some t → ts.eraseIdx j = ts.filter fun u => !decide (u = t) := by
  induction ts with
  | nil => intro j t h; simp at h
  | cons x r ih =>
    intro j t h
    rw [List.nodup_cons] at nd
    cases j with
    | zero =>
      simp at h
      subst h
      rw [List.eraseIdx_cons_zero, List.filter_cons_of_neg (by simp)]
      symm
      rw [List.filter_eq_self]
      intro u hu
      simp
      intro e
      exact nd.1 (e ▸ hu)
    | succ j =>
      have h : r[j]? = some t := by simpa using h
      rw [List.eraseIdx_cons_succ, List.filter_cons_of_pos, ih nd.2 h]
      simp
      intro e
      exact nd.1 (e ▸ List.mem_of_getElem? h)
theorem all_erase {α : Type} [DecidableEq α] [Datum α] {H : Hp} : ∀ {vs : List V} {xs : List α} (j : Nat), HdAll K H vs xs → HdAll K H (vs.eraseIdx j) (xs.eraseIdx j)
  | [], [], _, h => h
  | _ :: _, [], _, h => by cases h
  | [], _ :: _, _, h => by cases h
  | v :: vs, x :: xs, 0, .cons h1 h2 => h2
  | v :: vs, x :: xs, j + 1, .cons h1 h2 => .cons h1 (all_erase j h2)
theorem first_ix {ts : List Th} (nd : ts.Nodup) {t : Th} (h : t ∈ ts) : ∃ j : Nat, ts[j]? = some t ∧ ∀ m : Nat, m < j → ts[m]? ≠ some t := by
  obtain ⟨j, hj⟩ := List.mem_iff_getElem?.mp h
  refine ⟨j, hj, fun m hm e => ?_⟩
  obtain ⟨hj1, e1⟩ := List.getElem?_eq_some_iff.mp hj
  obtain ⟨hm1, e2⟩ := List.getElem?_eq_some_iff.mp e
  rw [List.nodup_iff_pairwise_ne] at nd
  exact List.pairwise_iff_getElem.mp nd m j hm1 hj1 hm (e2.trans e1.symm)
def spTakeS (K : PySem.W.Frag) (C : Addr) : Sp := fun vs H Q _ => ∃ (a : Addr) (S : List Addr) (ks : List Str) (cs : List (List Str)) (rows : List Row) (things : List Th) (names : List Str) (u : V) (c : List Str),
  vs = [.ref a, u] ∧ St K C H S a ks cs rows things names ∧ VH ks cs ∧ c ∈ cs ∧ Hd K (off H S) u (Tup.mk c) ∧ things.Nodup ∧ rows.length ≤ 500 ∧
  ∀ H', St K C H' S a ks cs (rows ++ [.call c]) (step things (.call c)).1 names → Kp S H H' → Q (oV (step things (.call c)).2) H'
abbrev s_St_take : Stmt := inClass (topS 22) 4
abbrev p_St_take : List Str := ["self", "call"]
theorem sc_St_take : FnScope ["self", "call", "thing"] ["self", "call"] (defScope s_St_take) := ⟨rfl, rfl, rfl, by decide +kernel, rfl, by decide +kernel, by decide +kernel⟩
theorem m_take (D : MDef K C "take" "Store.take" s_St_take p_St_take) (SC : StC K mg C p0 p1 p2 p3) (B : Blt mg) (C_is_call : Cal P w K mg base "is_call" p_is_call 4 (spIsSet K))
    (M_first_of : MCal P w K mg base C "first_of" p_St_first_of 4 (spFirst K C)) : MCal P w K mg base C "take" p_St_take 5 (spTakeS K C) := by
  refine D.cal sc_St_take (fun vs H Q E h => ?_) (fun f cdv A outer s H vs Q E hr h => ?_)
  · obtain ⟨a, S, ks, cs, rows, things, names, u, c, rfl, _⟩ := h; rfl
  · obtain ⟨a, S, ks, cs, rows, things, names, u, c, rfl, hs0, vh, hc, hu, tnd, l1, q⟩ := h
    refine ⟨_, (pss_cons (ps_if (pt_not (pt_val (pe_cal C_is_call hr (pa_cons (k_sl K (pv 0)) (pa_cons (pv 1) pa_nil)))))
  pss_never
  pss_nil)
  (pss_cons (ps_expr (k_bm K PySem.F.plainAttrs_list PySem.F.slot_list_append PySem.F.type_list_append mt_append (k_sl K (pv 0)) (pa_cons (pe_tup (pa_cons pe_str (pa_cons (pv 1) pa_nil))) pa_nil)))
  (pss_cons (ps_set (i := 2) sc_St_take.nd rfl (.inl rfl) (pe_mcal M_first_of hr SC.c (pv 0) (pa_cons (pv 1) pa_nil)))
  (pss_cons (ps_if (pt_cmpR op_isN (pv 2) pe_non (nomark _))
  (pss_one (ps_ret pe_non))
  pss_nil)
  (pss_cons (ps_expr (k_bm K PySem.F.plainAttrs_list PySem.F.slot_list_remove PySem.F.type_list_remove (k_removeX K (Str × Str) hr.units) (k_sl K (pv 0)) (pa_cons (pv 2) pa_nil)))
  (pss_one (ps_ret (pe_ix (k_ixT K) (pv 2) pe_int (fun _ _ => rfl))))))))), ?_⟩
    have hs0' := hs0
    obtain ⟨dx, R, T, N, hv, rs, ts, kvs, rfl, nd, hsl, hh, hR, hrs, hT, hts, hN, hks⟩ := hs0
    obtain ⟨ad, aR, aT, aN, dR, dT, dN, RT, RN, TN⟩ := nd5 nd
    refine ⟨.ref a, rfl, a, C, dx, p0, _, 0, hv, rfl, hsl, SC.c, SC.s0, rfl, u, rfl, hv, u, ks, cs, c, rfl, Dp.mono off_le hh, vh, Dp.mono off_le hu, hc, fun H1 s1 => ⟨true, rfl, iteF ?_⟩⟩
    replace hsl := slt_same hsl s1
    replace hh := Dp.mono (off_same s1) hh
    replace hR := s1 _ _ hR
    replace hrs := DpAll.mono (off_same s1) hrs
    replace hT := s1 _ _ hT
    replace hts := DpAll.mono (off_same s1) hts
    replace hN := s1 _ _ hN
    replace hu := Dp.mono (off_same s1) hu
    refine ⟨.ref a, rfl, a, C, dx, p2, _, 2, .ref R, rfl, hsl, SC.c, SC.s2, rfl, .inl ⟨rfl, _, sql_of hR⟩, u, rfl, len_ok (by simp), fun p np => ?_⟩
    have pT := (ne_of_none hT np).symm
    have pR := (ne_of_none hR np).symm
    have pN := (ne_of_none hN np).symm
    refine ⟨R, rs, .ref p, rfl, rfl, by rw [upd_ne pR.symm]; exact hR, small1000 (by have := all_len hrs; omega), ?_⟩
    generalize hG3 : upd (upd H1 p (.tup [.str "call", u])) R (.lst (rs ++ [.ref p])) = G3
    obtain ⟨oa', ea2, od', ed2⟩ := slt_some hsl
    have pa := (ne_of_none ea2 np).symm
    have pd := (ne_of_none ed2 np).symm
    have hsl3 : Slt G3 a C dx [some hv, some (.ref N), some (.ref R), some (.ref T)] := by rw [← hG3]; exact slt_upd (slt_upd hsl pa pd) aR.symm dR.symm
    have m3 : Same (off H1 [a, dx, R, T, N]) (off G3 [a, dx, R, T, N]) := by rw [← hG3]; exact (off_new np).trans (off_wr (by simp))
    have R3 : G3 R = some (.lst (rs ++ [.ref p])) := by rw [← hG3, upd_same]
    have T3 : G3 T = some (.lst ts) := by rw [← hG3, upd_ne RT.symm, upd_ne pT.symm]; exact hT
    have N3 : G3 N = some (.dK kvs) := by rw [← hG3, upd_ne RN.symm, upd_ne pN.symm]; exact hN
    have P3 : off G3 [a, dx, R, T, N] p = some (.tup [.str "call", u]) := off_of (by simp [pa, pd, pR, pT, pN]) (by rw [← hG3, upd_ne pR, upd_same])
    have k3 : Kp [a, dx, R, T, N] H1 G3 := by rw [← hG3]; exact (Kp.new np).trans (Kp.wr (by simp))
    have hu3 := Dp.mono m3 hu
    have hrs3 : HdAll K (off G3 [a, dx, R, T, N]) (rs ++ [.ref p]) (rows ++ [.call c]) := all_app (DpAll.mono m3 hrs) (all_one (row_call (sqt_of P3) hu3))
    have hts3 := DpAll.mono m3 hts
    have st3 : St K C G3 [a, dx, R, T, N] a ks cs (rows ++ [.call c]) things names := ⟨dx, R, T, N, hv, _, _, _, rfl, nd, hsl3, Dp.mono m3 hh, R3, hrs3, T3, hts3, N3, hks⟩
    have kk : Kp [a, dx, R, T, N] H G3 := (Kp.of_same s1).trans k3
    refine ⟨.ref a, rfl, a, dx, _, rfl, hsl3, u, rfl, a, _, ks, cs, _, things, names, u, c, rfl, st3, Dp.mono off_le hu3, fun v h0 h1 => ?_⟩
    refine ⟨v, rfl, rfl, _, rfl, ?_⟩
    cases e : firstOf c things with
    | none =>
      cases h0 e
      refine iteT ?_
      rw [step_none e] at q
      exact q G3 st3 kk
    | some t =>
      have hd := h1 t e
      obtain ⟨ta, x1, x2, rfl, hta, g1, g2⟩ := hd_pair_inv hd
      refine ifF (by simp) ?_
      obtain ⟨j, hj, hno⟩ := first_ix tnd (firstOf_mem e).1
      refine ⟨.ref a, rfl, a, C, dx, p3, _, 3, .ref T, rfl, hsl3, SC.c, SC.s3, rfl, .inl ⟨rfl, _, sql_of T3⟩, .ref ta, rfl, T, ts, .ref ta, t, things, j, rfl, rfl, T3, DpAll.mono off_le hts3, Dp.mono off_le hd, hj, hno, ?_⟩
      generalize hG4 : upd G3 T (.lst (ts.eraseIdx j)) = G4
      have m4 : Same (off G3 [a, dx, R, T, N]) (off G4 [a, dx, R, T, N]) := by rw [← hG4]; exact off_wr (by simp)
      have hta4 : SqT K G4 ta [x1, x2] := off_sqt (Same.sqt m4 hta)
      cases hd_str_inv g1
      refine ⟨.ref ta, rfl, ta, _, 0, .str t.1, rfl, rfl, hta4, atI_nat (j := 0) rfl, ?_⟩
      rw [step_some e] at q
      refine q G4 ⟨dx, R, T, N, hv, _, ts.eraseIdx j, _, rfl, nd, ?_, Dp.mono (m3.trans m4) hh, ?_, DpAll.mono m4 hrs3, ?_, ?_, ?_, hks⟩ (kk.trans (by rw [← hG4]; exact Kp.wr (by simp)))
      · rw [← hG4]; exact slt_upd hsl3 aT.symm dT.symm
      · rw [← hG4, upd_ne RT]; exact R3
      · rw [← hG4, upd_same]
      · show HdAll K _ _ (things.filter fun u => !decide (u = t))
        rw [← erase_filter tnd hj]
        exact all_erase j (DpAll.mono m4 hts3)
      · rw [← hG4, upd_ne TN.symm]; exact N3
/-! ### drop -/
def spDrop (K : PySem.W.Frag) (C : Addr) : Sp := fun vs H Q _ => ∃ (a : Addr) (S : List Addr) (ks : List Str) (cs : List (List Str)) (rows : List Row) (things : List Th) (names : List Str) (n : Str),
  vs = [.ref a, .str n] ∧ St K C H S a ks cs rows things names ∧ Nm n ∧ rows.length ≤ 500 ∧ things.length ≤ 500 ∧
  ∀ H' S', St K C H' S' a ks cs (rows ++ [.drop n]) (step things (.drop n)).1 names → Kp S H H' → Fr S S' H →
    Q (.bl (decide ((things.filter fun t => !decide (t.1 = n)).length < things.length))) H'
abbrev s_St_drop : Stmt := inClass (topS 22) 5
abbrev p_St_drop : List Str := ["self", "name"]
theorem sc_St_drop : FnScope ["self", "name", "left", "was_there", "thing"] ["self", "name"] (defScope s_St_drop) := ⟨rfl, rfl, rfl, by decide +kernel, rfl, by decide +kernel, by decide +kernel⟩
theorem m_drop (D : MDef K C "drop" "Store.drop" s_St_drop p_St_drop) (SC : StC K mg C p0 p1 p2 p3) (B : Blt mg) (C_is_name : Cal P w K mg base "is_name" p_is_name 1 spName) :
    MCal P w K mg base C "drop" p_St_drop 2 (spDrop K C) := by
  refine D.cal sc_St_drop (fun vs H Q E h => ?_) (fun f cdv A outer s H vs Q E hr h => ?_)
  · obtain ⟨a, S, ks, cs, rows, things, names, n, rfl, _⟩ := h; rfl
  · obtain ⟨a, S, ks, cs, rows, things, names, n, rfl, hs0, hn, l1, l2, q⟩ := h
    refine ⟨_, (pss_cons (ps_if (pt_not (pt_val (pe_cal C_is_name hr (pa_cons (pv 1) pa_nil))))
  pss_never
  pss_nil)
  (pss_cons (ps_setLc (i := 2) rfl sc_St_drop.nd rfl rfl rfl (k_piL K (k_sl K (pv 0))) (blkOk_by (own := [("thing", 4)]) (by kernel_rfl)) (fun _ _ _ _ _ => (pg_name (i := 4) sc_St_drop.nd rfl (by first | exact .inl rfl | exact .inr rfl))) (fun _ _ _ _ _ => (pts_one (pt_cmpR op_ne (pe_ix (k_ixT K) (pv 4) pe_int (fun _ _ => rfl)) (pv 1) (nomark _)))) (fun _ _ _ _ _ => (pv 4)))
  (pss_cons (ps_set (i := 3) sc_St_drop.nd rfl (.inl rfl) (pe_cmpR op_lt (pe_callB (k_len K) (by rfl) B.len (by decide +kernel) (pa_cons (pv 2) pa_nil)) (pe_callB (k_len K) (by rfl) B.len (by decide +kernel) (pa_cons (k_sl K (pv 0)) pa_nil)) (nomark _)))
  (pss_cons (SlX.ps_sl (pv 0) (pv 2))
  (pss_cons (ps_expr (k_bm K PySem.F.plainAttrs_list PySem.F.slot_list_append PySem.F.type_list_append mt_append (k_sl K (pv 0)) (pa_cons (pe_tup (pa_cons pe_str (pa_cons (pv 1) pa_nil))) pa_nil)))
  (pss_one (ps_ret (pv 3)))))))), ?_⟩
    refine ⟨.str n, rfl, n, rfl, hn, fun H1 s1 => ⟨true, rfl, iteF ?_⟩⟩
    obtain ⟨dx, R, T, N, hv, rs, ts, kvs, rfl, nd, hsl, hh, hR, hrs, hT, hts, hN, hks⟩ := hs0.same s1
    obtain ⟨ad, aR, aT, aN, dR, dT, dN, RT, RN, TN⟩ := nd5 nd
    refine ⟨.ref a, rfl, a, C, dx, p3, _, 3, .ref T, rfl, hsl, SC.c, SC.s3, rfl, T, rfl, ⟨_, sql_of hT⟩, fun L nL => ?_⟩
    have tl := all_len hts
    refine lc_it (walk_list (xs := ts)) (fun i H2 => Same H1 H2 ∧ ∃ acc, H2 L = some (.lst acc) ∧ HdAll K (off H1 [a, dx, R, T, N]) acc ((things.take i).filter fun t => !decide (t.1 = n)))
      ⟨same_new nL, [], upd_same, .nil⟩ (fun i H2 _ t => sql_of (t.1 _ _ hT)) ?_ ?_
    · rintro i z H2' H2 hi ⟨s2, acc, e, ha⟩ ⟨rfl, hz⟩
      obtain ⟨t, ht, hd⟩ := all_get hts hz
      obtain ⟨ta, x1, x2, rfl, hta, g1, g2⟩ := hd_pair_inv hd
      cases hd_str_inv g1
      refine ⟨rfl, .ref ta, rfl, ta, _, 0, .str t.1, rfl, rfl, off_sqt (Same.sqt (off_same s2) hta), atI_nat (j := 0) rfl, .str n, rfl, rfl, _, rfl, ?_⟩
      have hlen : acc.length < sizeLine := small1000 (by
        have h1 := all_len ha
        have h2 := List.length_filter_le (fun t : Th => !decide (t.1 = n)) (things.take i)
        rw [List.length_take] at h2
        omega)
      by_cases hm : t.1 = n
      · refine ifF (by simp [hm]) ⟨s2, acc, e, ?_⟩
        rw [List.take_add_one, ht]
        simpa [hm] using ha
      · refine ifT (by simp [hm]) ⟨.ref ta, rfl, acc, e, hlen, fun c o ec => ?_, _, upd_same, ?_⟩
        · rw [upd_ne (ne_of_none ec nL)]; exact s2 _ _ ec
        · rw [List.take_add_one, ht]
          have : ((things.take i ++ (some t).toList).filter fun t => !decide (t.1 = n)) = ((things.take i).filter fun t => !decide (t.1 = n)) ++ [t] := by simp [hm]
          rw [this]
          exact all_app ha (all_one hd)
    · rintro H2 ⟨s2, acc, e, ha⟩
      rw [List.take_of_length_le (by omega)] at ha
      have al := all_len ha
      have hsl2 := slt_same hsl s2
      have hT2 := s2 _ _ hT
      refine ⟨.ref L, rfl, L, acc, rfl, .inl (sql_of e), .ref a, rfl, a, C, dx, p3, _, 3, .ref T, rfl, hsl2, SC.c, SC.s3, rfl, T, ts, rfl, .inl (sql_of hT2), _, _, rfl, rfl, ?_⟩
      refine ⟨.ref L, rfl, .ref a, rfl, a, C, dx, p3, _, 3, rfl, hsl2, SC.c, SC.s3, ?_⟩
      have dxa : dx ≠ a := ad.symm
      show _
      obtain ⟨oa, ea, od, ed⟩ := slt_some hsl
      have La := (ne_of_none ea nL).symm
      have Ld := (ne_of_none ed nL).symm
      have LR := (ne_of_none hR nL).symm
      have LN := (ne_of_none hN nL).symm
      have hsl3 : Slt (slH H2 a C dx [some hv, some (.ref N), some (.ref R), some (.ref L)]) a C dx [some hv, some (.ref N), some (.ref R), some (.ref L)] := slH_slt dxa
      have ko : ∀ c, c ≠ a → c ≠ dx → slH H2 a C dx [some hv, some (.ref N), some (.ref R), some (.ref L)] c = H2 c := fun c h1 h2 => SlX.slH_ne h1 h2
      generalize hG2 : slH H2 a C dx [some hv, some (.ref N), some (.ref R), some (.ref L)] = G2 at hsl3 ko
      have e2 : slH H2 a C dx (putS 3 (.ref L) [some hv, some (.ref N), some (.ref R), some (.ref T)]) = G2 := hG2
      rw [e2]
      have R2 : G2 R = some (.lst rs) := by rw [ko R aR.symm dR.symm]; exact s2 _ _ hR
      have L2' : G2 L = some (.lst acc) := by rw [ko L La Ld]; exact e
      have N2 : G2 N = some (.dK kvs) := by rw [ko N aN.symm dN.symm]; exact s2 _ _ hN
      have m2 : Same (off H1 [a, dx, R, T, N]) (off G2 [a, dx, R, L, N]) := by
        intro c o ec
        obtain ⟨nc, ec⟩ := off_some ec
        simp only [List.mem_cons, List.not_mem_nil, or_false, not_or] at nc
        refine off_of ?_ (by rw [ko c nc.1 nc.2.1]; exact s2 _ _ ec)
        simp [nc.1, nc.2.1, nc.2.2.1, nc.2.2.2.2, ne_of_none ec nL]
      have k2 : Kp [a, dx, R, T, N] H1 G2 := by
        intro c o nc ec
        simp only [List.mem_cons, List.not_mem_nil, or_false, not_or] at nc
        rw [ko c nc.1 nc.2.1]
        exact s2 _ _ ec
      refine ⟨.ref a, rfl, a, C, dx, p2, _, 2, .ref R, rfl, hsl3, SC.c, SC.s2, rfl, .inl ⟨rfl, _, sql_of R2⟩, .str n, rfl, len_ok (by simp), fun p np => ?_⟩
      have pL := (ne_of_none L2' np).symm
      have pR := (ne_of_none R2 np).symm
      have pN := (ne_of_none N2 np).symm
      refine ⟨R, rs, .ref p, rfl, rfl, by rw [upd_ne pR.symm]; exact R2, small1000 (by have := all_len hrs; omega), ?_⟩
      generalize hG3 : upd (upd G2 p (.tup [.str "drop", .str n])) R (.lst (rs ++ [.ref p])) = G3
      obtain ⟨oa', ea2, od', ed2⟩ := slt_some hsl3
      have pa := (ne_of_none ea2 np).symm
      have pd := (ne_of_none ed2 np).symm
      have hsl4 : Slt G3 a C dx [some hv, some (.ref N), some (.ref R), some (.ref L)] := by rw [← hG3]; exact slt_upd (slt_upd hsl3 pa pd) aR.symm dR.symm
      have m3 : Same (off G2 [a, dx, R, L, N]) (off G3 [a, dx, R, L, N]) := by rw [← hG3]; exact (off_new np).trans (off_wr (by simp))
      have R3 : G3 R = some (.lst (rs ++ [.ref p])) := by rw [← hG3, upd_same]
      have L3 : G3 L = some (.lst acc) := by rw [← hG3, upd_ne LR, upd_ne pL.symm]; exact L2'
      have N3 : G3 N = some (.dK kvs) := by rw [← hG3, upd_ne RN.symm, upd_ne pN.symm]; exact N2
      have P3 : off G3 [a, dx, R, L, N] p = some (.tup [.str "drop", .str n]) := off_of (by simp [pa, pd, pR, pL, pN]) (by rw [← hG3, upd_ne pR, upd_same])
      have k3 : Kp [a, dx, R, T, N] G2 G3 := by rw [← hG3]; exact (Kp.new np).trans (Kp.wr (by simp))
      have m23 := m2.trans m3
      refine ⟨_, rfl, ?_⟩
      have hb : decide (((acc.length : Nat) : Int) < ((ts.length : Nat) : Int)) = decide ((things.filter fun t => !decide (t.1 = n)).length < things.length) := by
        rw [al, tl]
        exact decide_eq_decide.mpr (by omega)
      show Q (.bl (decide (((acc.length : Nat) : Int) < ((ts.length : Nat) : Int)))) G3
      rw [hb]
      refine q G3 [a, dx, R, L, N] ⟨dx, R, L, N, hv, _, _, _, rfl, ?_, hsl4, Dp.mono m23 hh, R3, all_app (DpAll.mono m23 hrs) (all_one (row_drop (sqt_of P3))), L3, DpAll.mono m23 ha, N3, hks⟩ ((Kp.of_same s1).trans (k2.trans k3)) ?_
      · simp [ad, aR, aN, dR, dN, RN, La.symm, Ld.symm, LR.symm, LN]
      · intro y hy
        simp only [List.mem_cons, List.not_mem_nil, or_false] at hy
        rcases hy with rfl | rfl | rfl | rfl | rfl
        · simp
        · simp
        · simp
        · exact .inr (s1.free nL)
        · simp
/-! ### there, rows -/
def spThere (K : PySem.W.Frag) (C : Addr) : Sp := fun vs H Q _ => ∃ (a : Addr) (S : List Addr) (ks : List Str) (cs : List (List Str)) (rows : List Row) (things : List Th) (names : List Str),
  vs = [.ref a] ∧ St K C H S a ks cs rows things names ∧
  ∀ p acc H', H p = none → H' p = some (.lst acc) → HdAll K (off H S) acc things → Same H H' → Q (.ref p) H'
abbrev s_St_there : Stmt := inClass (topS 22) 6
abbrev p_St_there : List Str := ["self"]
theorem sc_St_there : FnScope ["self"] ["self"] (defScope s_St_there) := ⟨rfl, rfl, rfl, by decide +kernel, rfl, by decide +kernel, by decide +kernel⟩
theorem m_there (D : MDef K C "there" "Store.there" s_St_there p_St_there) (SC : StC K mg C p0 p1 p2 p3) (B : Blt mg) :
    MCal P w K mg base C "there" p_St_there 1 (spThere K C) := by
  refine D.cal sc_St_there (fun vs H Q E h => ?_) (fun f cdv A outer s H vs Q E hr h => ?_)
  · obtain ⟨a, S, ks, cs, rows, things, names, rfl, _⟩ := h; rfl
  · obtain ⟨a, S, ks, cs, rows, things, names, rfl, hs0, q⟩ := h
    refine ⟨_, (pss_one (ps_ret (pe_callTy (k_list K) (by rfl) B.list (by decide +kernel) (pa_cons (k_sl K (pv 0)) pa_nil)))), ?_⟩
    obtain ⟨dx, R, T, N, hv, rs, ts, kvs, rfl, nd, hsl, hh, hR, hrs, hT, hts, hN, hks⟩ := hs0
    refine ⟨.ref a, rfl, a, C, dx, p3, _, 3, .ref T, rfl, hsl, SC.c, SC.s3, rfl, T, ts, rfl, .inl (sql_of hT), fun l nl => ?_⟩
    exact q l ts _ nl upd_same hts (same_new nl)
def spRows (K : PySem.W.Frag) (C : Addr) : Sp := fun vs H Q _ => ∃ (a : Addr) (S : List Addr) (ks : List Str) (cs : List (List Str)) (rows : List Row) (things : List Th) (names : List Str),
  vs = [.ref a] ∧ St K C H S a ks cs rows things names ∧
  ∀ v H', Same H H' → Hd K (off H' S) v (Tup.mk rows) → Q v H'
abbrev s_St_rows : Stmt := inClass (topS 22) 8
abbrev p_St_rows : List Str := ["self"]
theorem sc_St_rows : FnScope ["self"] ["self"] (defScope s_St_rows) := ⟨rfl, rfl, rfl, by decide +kernel, rfl, by decide +kernel, by decide +kernel⟩
theorem m_rows (D : MDef K C "rows" "Store.rows" s_St_rows p_St_rows) (SC : StC K mg C p0 p1 p2 p3) (B : Blt mg) :
    MCal P w K mg base C "rows" p_St_rows 1 (spRows K C) := by
  refine D.cal sc_St_rows (fun vs H Q E h => ?_) (fun f cdv A outer s H vs Q E hr h => ?_)
  · obtain ⟨a, S, ks, cs, rows, things, names, rfl, _⟩ := h; rfl
  · obtain ⟨a, S, ks, cs, rows, things, names, rfl, hs0, q⟩ := h
    refine ⟨_, (pss_one (ps_ret (pe_callTy (k_tuple K) (by rfl) B.tuple (by decide +kernel) (pa_cons (k_sl K (pv 0)) pa_nil)))), ?_⟩
    have hsm := hs0.some
    obtain ⟨dx, R, T, N, hv, rs, ts, kvs, rfl, nd, hsl, hh, hR, hrs, hT, hts, hN, hks⟩ := hs0
    refine ⟨.ref a, rfl, a, C, dx, p2, _, 2, .ref R, rfl, hsl, SC.c, SC.s2, rfl, R, rs, rfl, .inl ⟨sql_of hR, fun l nl => ?_⟩⟩
    have nl' : l ∉ [a, dx, R, T, N] := fun z => by
      obtain ⟨o, e⟩ := hsm l z
      rw [e] at nl; cases nl
    exact q _ _ (same_new nl) (hd_tup (sqt_of (off_of nl' upd_same)) (DpAll.mono (off_new nl) hrs))
/-! ### amounts -/
/-- sk are the kinds ks, sorted -/
def Srt (ks sk : List Str) : Prop := sk.Perm ks ∧ sk.Pairwise fun a b => DatumOrd.lt b a = false
theorem letters_lt : ∀ c ∈ letters.cps.toList, c < 0x110000 := by decide +kernel
theorem nm_ok {x : Str} (h : Nm x) : PyData.strOk x = true := by
  unfold PyData.strOk
  rw [Array.all_eq_true_iff_forall_mem]
  intro c hc
  exact decide_eq_true (letters_lt c (h.2.2 c (Array.mem_toList_iff.mpr hc)))
theorem strs_lay : ∀ {xs : List Str}, (∀ x ∈ xs, PyData.strOk x = true) → PyData.canLayAll0 (xs.map PyData.str) = true
  | [], _ => rfl
  | x :: xs, h => by
    rw [List.map_cons, PyData.canLayAll0, PyData.canLay0, h x (by simp), strs_lay fun y hy => h y (by simp [hy])]
    rfl
theorem strs_sortable (xs : List Str) : PySem.W.Sortable (xs.map PyData.str) := .inr fun d h => by
  obtain ⟨x, _, rfl⟩ := List.mem_map.mp h
  exact ⟨by simp, fun _ => by simp⟩
def spAmounts (K : PySem.W.Frag) (C : Addr) : Sp := fun vs H Q _ => ∃ (a : Addr) (S : List Addr) (ks : List Str) (cs : List (List Str)) (rows : List Row) (things : List Th) (names : List Str),
  vs = [.ref a] ∧ St K C H S a ks cs rows things names ∧ VH ks cs ∧ (∀ t ∈ things, t.2 ∈ ks) ∧
  ∀ p sk H', H p = none → Srt ks sk → H' p = some (.dK (amK sk things)) → Same H H' → Q (.ref p) H'
theorem valV_am {sk : List Str} {ts : List Th} {k : Str} (h : k ∈ sk) : valV (amK sk ts) (.inr k) = some (.int (cntK ts k)) := by
  unfold amK
  induction sk with
  | nil => cases h
  | cons x r ih =>
    by_cases e : x = k
    · subst e
      exact valV_pos (p := (Sum.inr x, V.int (cntK ts x))) rfl
    · rw [List.map_cons, valV_neg (fun z => e (by cases z; rfl))]
      exact ih (by rcases List.mem_cons.mp h with q | q; exact absurd q.symm e; exact q)
theorem am_put {sk : List Str} {ts : List Th} {t : Th} (h : t.2 ∈ sk) : putK (amK sk ts) (.inr t.2) (.int ((cntK ts t.2 : Nat) + 1 : Int)) = amK sk (ts ++ [t]) := by
  unfold putK
  have : ((amK sk ts).any fun kv => decide (kv.1 = .inr t.2)) = true := by
    rw [valV_any, valV_am h]; rfl
  rw [if_pos this]
  unfold amK
  rw [List.map_map]
  refine List.map_congr_left fun k _ => ?_
  show (if (Sum.inr k : Key) = .inr t.2 then ((Sum.inr k : Key), V.int ((cntK ts t.2 : Nat) + 1 : Int)) else (.inr k, .int (cntK ts k))) = (.inr k, .int (cntK (ts ++ [t]) k))
  by_cases e : k = t.2
  · subst e
    rw [if_pos rfl]
    unfold cntK
    rw [List.filter_append]
    simp
  · rw [if_neg (fun z => e (by cases z; rfl))]
    unfold cntK
    rw [List.filter_append]
    simp [Ne.symm e]
abbrev s_St_amounts : Stmt := inClass (topS 22) 7
abbrev p_St_amounts : List Str := ["self"]
theorem sc_St_amounts : FnScope ["self", "found", "name", "kind"] ["self"] (defScope s_St_amounts) := ⟨rfl, rfl, rfl, by decide +kernel, rfl, by decide +kernel, by decide +kernel⟩
theorem m_amounts (D : MDef K C "amounts" "Store.amounts" s_St_amounts p_St_amounts) (SC : StC K mg C p0 p1 p2 p3) (B : Blt mg) :
    MCal P w K mg base C "amounts" p_St_amounts 1 (spAmounts K C) := by
  refine D.cal sc_St_amounts (fun vs H Q E h => ?_) (fun f cdv A outer s H vs Q E hr h => ?_)
  · obtain ⟨a, S, ks, cs, rows, things, names, rfl, _⟩ := h; rfl
  · obtain ⟨a, S, ks, cs, rows, things, names, rfl, hs0, vh, hk, q⟩ := h
    refine ⟨_, (pss_cons (ps_setDc (i := 1) rfl sc_St_amounts.nd rfl rfl rfl (k_piL K (pe_callB (k_sortX K Str hr.units) (by rfl) B.sorted (by decide +kernel) (pa_cons (pe_ix (k_ixT K) (k_sl K (pv 0)) pe_int (fun _ _ => rfl)) pa_nil))) (blkOk_by (own := [("kind", 3)]) (by kernel_rfl)) (fun _ _ _ _ _ => (pg_name (i := 3) sc_St_amounts.nd rfl (by first | exact .inl rfl | exact .inr rfl))) (fun _ _ _ _ _ => pts_nil) (fun _ _ _ _ _ => (pv 3)) (fun _ _ _ _ _ => pe_int))
  (pss_cons (ps_for PassesOwn.never rfl (k_piL K (k_sl K (pv 0))) (k_tup K (n := 2) rfl (pgs_cons (pg_name (i := 2) sc_St_amounts.nd rfl (by first | exact .inl rfl | exact .inr rfl)) (pgs_cons (pg_name (i := 3) sc_St_amounts.nd rfl (by first | exact .inl rfl | exact .inr rfl)) pgs_nil)))
  (pss_one (ps_daug (hu_of hr) (pv 1) (pv 3) pe_int in_add (fun _ _ _ => rfl))))
  (pss_one (ps_ret (pv 1))))), ?_⟩
    obtain ⟨dx, R, T, N, hv, rs, ts, kvs, rfl, nd, hsl, hh, hR, hrs, hT, hts, hN, hks⟩ := hs0
    obtain ⟨ha, x, y, rfl, hS, hx, hy⟩ := hd_house (Dp.mono off_le hh)
    obtain ⟨ka, rfl, hka⟩ := hd_strT hx
    have hk6 := vh.k6
    have tl := all_len hts
    refine ⟨.ref a, rfl, a, C, dx, p0, _, 0, .ref ha, rfl, hsl, SC.c, SC.s0, rfl, ha, _, 0, .ref ka, rfl, rfl, hS, atI_nat (j := 0) rfl, H, ka, _, ks, rfl, Same.refl _, .inr hka, all_strs ks,
      strs_lay fun z hz => nm_ok (vh.nm z hz), strs_sortable ks, fun ys sk p hp hs hys np => ?_⟩
    cases all_strs_inv hys
    have hsl' := hp.length_eq
    refine ⟨p, rfl, ⟨_, sql_of upd_same⟩, fun D nD => ?_⟩
    obtain ⟨nDp, nD⟩ := up_none nD
    have s0 : Same H (upd H p (.lst (sk.map V.str))) := same_new np
    have hp0 : (upd H p (.lst (sk.map V.str))) p = some (.lst (sk.map V.str)) := upd_same
    have nD0 : (upd H p (.lst (sk.map V.str))) D = none := by rw [upd_ne nDp]; exact nD
    revert s0 hp0 nD0
    generalize upd H p (.lst (sk.map V.str)) = H1
    intro s0 hp0 nD0
    refine dc_it (walk_list (xs := sk.map V.str)) (fun i H2 => Same H1 H2 ∧ H2 D = some (.dK (amK (sk.take i) []))) ⟨same_new nD0, upd_same⟩ (fun i H2 _ t => sql_of (t.1 _ _ hp0)) ?_ ?_
    · rintro i z H2' H2 hi ⟨s2, e⟩ ⟨rfl, hz⟩
      obtain ⟨k, hk, rfl⟩ := map_get hz
      refine ⟨rfl, .str k, rfl, _, .inr k, rfl, e, small1000 ?_, fun c o ec => ?_, ?_⟩
      · unfold amK
        rw [List.length_map, List.length_take]
        omega
      · rw [upd_ne (ne_of_none ec nD0)]; exact s2 _ _ ec
      · rw [upd_same, List.take_add_one, hk]
        have hnew : valV (amK (sk.take i) []) (.inr k) = none := by
          cases ev : valV (amK (sk.take i) []) (.inr k) with
          | none => rfl
          | some v =>
            exfalso
            have := valV_in ev
            unfold amK at this
            rw [List.map_map] at this
            obtain ⟨k', hk', e'⟩ := List.mem_map.mp this
            cases e'
            have ndk : sk.Nodup := hp.nodup_iff.mpr vh.nd
            obtain ⟨j, hj⟩ := List.mem_iff_getElem?.mp hk'
            rw [List.getElem?_take] at hj
            by_cases hji : j < i
            · rw [if_pos hji] at hj
              obtain ⟨hjl, e1⟩ := List.getElem?_eq_some_iff.mp hj
              obtain ⟨hil, e2⟩ := List.getElem?_eq_some_iff.mp hk
              rw [List.nodup_iff_pairwise_ne] at ndk
              exact List.pairwise_iff_getElem.mp ndk j i hjl hil hji (e1.trans e2.symm)
            · rw [if_neg hji] at hj; cases hj
        rw [putK_new _ hnew]
        unfold amK
        rw [List.map_append]
        rfl
    · rintro H2 ⟨s2, e⟩
      rw [List.length_map, List.take_length] at e
      have hT2 := (s0.trans s2) _ _ hT
      refine ⟨.ref a, rfl, a, C, dx, p3, _, 3, .ref T, rfl, slt_same hsl (s0.trans s2), SC.c, SC.s3, rfl, T, rfl, ⟨_, sql_of hT2⟩, ?_⟩
      refine for_it (walk_list (xs := ts)) (fun i σ H3 => (∃ y2 y3, σ = [some (.ref a), some (.ref D), y2, y3]) ∧ Same H H3 ∧ H3 D = some (.dK (amK sk (things.take i)))) ⟨⟨none, none, rfl⟩, s0.trans s2, e⟩ ?_ ?_ ?_
      · rintro i σ H3 _ ⟨_, s3, _⟩; exact sql_of (s3 _ _ hT)
      · rintro i z σ H3' H3 hi ⟨⟨y2, y3, rfl⟩, s3, e3⟩ ⟨rfl, hz⟩
        obtain ⟨t, ht, hd⟩ := all_get hts hz
        obtain ⟨ta, x1, x2, rfl, hta, g1, g2⟩ := hd_pair_inv hd
        cases hd_str_inv g1
        cases hd_str_inv g2
        have htk : t.2 ∈ sk := hp.mem_iff.mpr (hk t (List.mem_of_getElem? ht))
        refine ⟨ta, _, rfl, off_sqt (Same.sqt (off_same s3) hta), rfl, .str t.1, [.str t.2], rfl, .str t.2, [], rfl, rfl, ?_⟩
        refine ⟨.ref D, rfl, .str t.2, rfl, D, .int (cntK (things.take i) t.2), rfl, ?_, _, _, rfl, rfl, _, DPut.k (k := .inr t.2) e3 (small1000 ?_), ⟨_, _, rfl⟩, ?_, ?_⟩
        · have := DGet.k (k := .inr t.2) e3
          rw [valV_am htk] at this
          exact this
        · unfold amK
          rw [List.length_map]
          omega
        · intro c o ec
          rw [upd_ne (ne_of_none ec nD)]
          exact s3 _ _ ec
        · rw [upd_same, am_put htk, List.take_add_one, ht]
          rfl
      · rintro σ H3 ⟨⟨y2, y3, rfl⟩, s3, e3⟩
        rw [List.take_of_length_le (by omega)] at e3
        exact ⟨.ref D, rfl, q D sk H3 nD ⟨hp, hs⟩ e3 s3⟩
end
end CB
set_option Elab.async false
set_option linter.all false
set_option maxRecDepth 100000
set_option maxHeartbeats 4000000
namespace CB
open PySem PySem.Spec
open PyProof.Rows L2
open PySem.W (Datum Tup DatumOrd)
open SlX (Slt slH slH_slt slH_twice putS)
/-! ### data do not go through dicts -/
/-- lists and tuples are kept -/
structure SameT (A H : Hp) : Prop where
  l : ∀ a xs, Rd A a (.lst xs) → Rd H a (.lst xs)
  t : ∀ a xs, Rd A a (.tup xs) → Rd H a (.tup xs)
theorem SameT.sql {K : PySem.W.Frag} {A H : Hp} (e : SameT A H) {a : Addr} {xs : List V} (h : SqL K A a xs) : SqL K H a xs := h.imp (e.l a xs) id
theorem SameT.sqt {K : PySem.W.Frag} {A H : Hp} (e : SameT A H) {a : Addr} {xs : List V} (h : SqT K A a xs) : SqT K H a xs := h.imp (e.t a xs) id
mutual
theorem dp_monoT {K : PySem.W.Frag} {A H : Hp} (e : SameT A H) : ∀ {v : V} {d : PyData}, Dp K A v d → Dp K H v d
  | _, _, .non => .non
  | _, _, .bl b => .bl b
  | _, _, .int i => .int i
  | _, _, .str x => .str x
  | _, _, .lst h1 h2 => .lst (e.sql h1) (dpAll_monoT e h2)
  | _, _, .tup h1 h2 => .tup (e.sqt h1) (dpAll_monoT e h2)
theorem dpAll_monoT {K : PySem.W.Frag} {A H : Hp} (e : SameT A H) : ∀ {vs : List V} {ds : List PyData}, DpAll K A vs ds → DpAll K H vs ds
  | _, _, .nil => .nil
  | _, _, .cons h1 h2 => .cons (dp_monoT e h1) (dpAll_monoT e h2)
end
/-- a dict is written -/
theorem sameT_dict {H : Hp} {S : List Addr} {D : Addr} {k0 k1 : List (Key × V)} (h : H D = some (.dK k0)) : SameT (off H S) (off (upd H D (.dK k1)) S) := by
  refine ⟨fun a xs r => ?_, fun a xs r => ?_⟩
  · rcases r with r | ⟨o, r⟩
    · obtain ⟨n, e⟩ := off_some r
      exact .inl (off_of n (by rw [upd_ne (ne_of e h (by simp))]; exact e))
    · obtain ⟨n, e⟩ := off_some r
      exact .inr ⟨o, off_of n (by rw [upd_ne (ne_of e h (by simp))]; exact e)⟩
  · rcases r with r | ⟨o, r⟩
    · obtain ⟨n, e⟩ := off_some r
      exact .inl (off_of n (by rw [upd_ne (ne_of e h (by simp))]; exact e))
    · obtain ⟨n, e⟩ := off_some r
      exact .inr ⟨o, off_of n (by rw [upd_ne (ne_of e h (by simp))]; exact e)⟩
section
variable {P : Program} {w : World} {K : PySem.W.Frag} {mg : Str → Option Value} {base : Heap} {C p0 p1 p2 p3 : Addr}
theorem st_dict {H : Hp} {S : List Addr} {a D : Addr} {ks : List Str} {cs : List (List Str)} {rows : List Row} {things : List Th} {names : List Str} {k0 k1 : List (Key × V)}
    (h : St K C H S a ks cs rows things names) (hD : H D = some (.dK k0)) (n : D ∉ S) : St K C (upd H D (.dK k1)) S a ks cs rows things names := by
  obtain ⟨dx, R, T, N, hv, rs, ts, kvs, rfl, nd, h1, h2, h3, h4, h5, h6, h7, h8⟩ := h
  simp only [List.mem_cons, List.not_mem_nil, or_false, not_or] at n
  obtain ⟨n1, n2, n3, n4, n5⟩ := n
  have e := sameT_dict (S := [a, dx, R, T, N]) (k1 := k1) hD
  exact ⟨dx, R, T, N, hv, rs, ts, kvs, rfl, nd, slt_upd h1 n1 n2, dp_monoT e h2, by rw [upd_ne (Ne.symm n3)]; exact h3, dpAll_monoT e h4, by rw [upd_ne (Ne.symm n4)]; exact h5, dpAll_monoT e h6, by rw [upd_ne (Ne.symm n5)]; exact h7, h8⟩
/-- a row's tuple -/
def RowV (K : PySem.W.Frag) (H : Hp) (xs : List V) : Row → Prop
  | .put n k => xs = [.str "put", .str n, .str k]
  | .call c => ∃ u, xs = [.str "call", u] ∧ Hd K H u (Tup.mk c)
  | .drop n => xs = [.str "drop", .str n]
theorem row_inv {H : Hp} {v : V} {r : Row} (h : Hd K H v r) : ∃ a xs, v = .ref a ∧ SqT K H a xs ∧ RowV K H xs r := by
  cases r with
  | put n k =>
    obtain ⟨a, xs, rfl, h1, h2⟩ := Dp.tup_inv (show Dp K H v (.tuple [.str "put", .str n, .str k]) from h)
    obtain ⟨x, y, z, rfl, g1, g2, g3⟩ := h2.three_inv
    cases Dp.str_inv g1
    cases Dp.str_inv g2
    cases Dp.str_inv g3
    exact ⟨a, _, rfl, h1, rfl⟩
  | call c =>
    obtain ⟨a, xs, rfl, h1, h2⟩ := Dp.tup_inv (show Dp K H v (.tuple [.str "call", .tuple (c.map PyData.str)]) from h)
    obtain ⟨x, y, rfl, g1, g2⟩ := h2.two_inv
    cases Dp.str_inv g1
    exact ⟨a, _, rfl, h1, y, rfl, g2⟩
  | drop n =>
    obtain ⟨a, xs, rfl, h1, h2⟩ := Dp.tup_inv (show Dp K H v (.tuple [.str "drop", .str n]) from h)
    obtain ⟨x, y, rfl, g1, g2⟩ := h2.two_inv
    cases Dp.str_inv g1
    cases Dp.str_inv g2
    exact ⟨a, _, rfl, h1, rfl⟩
theorem s_pd : decide (V.str "drop" = V.str "put") = false := decide_eq_false (fun e => by have := V.str.inj e; revert this; decide)
theorem s_cp : decide (V.str "call" = V.str "put") = false := decide_eq_false (fun e => by have := V.str.inj e; revert this; decide)
theorem s_cd : decide (V.str "call" = V.str "drop") = false := decide_eq_false (fun e => by have := V.str.inj e; revert this; decide)
theorem s_pc : decide (V.str "put" = V.str "call") = false := decide_eq_false (fun e => by have := V.str.inj e; revert this; decide)
theorem s_dc : decide (V.str "drop" = V.str "call") = false := decide_eq_false (fun e => by have := V.str.inj e; revert this; decide)
/-! ### do_row -/
def spDo (K : PySem.W.Frag) (C : Addr) : Sp := fun vs H Q _ => ∃ (a : Addr) (S : List Addr) (ks : List Str) (cs : List (List Str)) (rows : List Row) (things : List Th) (names : List Str) (v : V) (r : Row),
  vs = [.ref a, v] ∧ St K C H S a ks cs rows things names ∧ VH ks cs ∧ Hd K (off H S) v r ∧ RowOk ks cs r ∧ (∀ n k, r = .put n k → n ∉ names) ∧ things.Nodup ∧
  rows.length ≤ 500 ∧ things.length ≤ 500 ∧ names.length ≤ 500 ∧
  ∀ H' S', St K C H' S' a ks cs (rows ++ [r]) (step things r).1 (names ++ r.name?.toList) → Kp S H H' → Fr S S' H → Q (oV (step things r).2) H'
abbrev s_do_row : Stmt := topS 24
abbrev p_do_row : List Str := ["store", "row"]
theorem sc_do_row : FnScope ["store", "row"] ["store", "row"] (defScope s_do_row) := ⟨rfl, rfl, rfl, by decide +kernel, rfl, by decide +kernel, by decide +kernel⟩
theorem c_do_row (D : Def K mg "do_row" s_do_row p_do_row) (SC : StC K mg C p0 p1 p2 p3) (M_put : MCal P w K mg base C "put" p_St_put 5 (spPut K C))
    (M_drop : MCal P w K mg base C "drop" p_St_drop 5 (spDrop K C)) (M_take : MCal P w K mg base C "take" p_St_take 5 (spTakeS K C)) :
    Cal P w K mg base "do_row" p_do_row 6 (spDo K C) := by
  refine D.cal sc_do_row (fun vs H Q E h => ?_) (fun f cdv A outer s H vs Q E hr h => ?_)
  · obtain ⟨a, S, ks, cs, rows, things, names, v, r, rfl, _⟩ := h; rfl
  · obtain ⟨a, S, ks, cs, rows, things, names, v, r, rfl, hst, vh, hv, ok, hn, tnd, l1, l2, l3, q⟩ := h
    refine ⟨_, (pss_cons (ps_if (pt_cmpR op_eq (pe_ix (k_ixT K) (pv 1) pe_int (fun _ _ => rfl)) pe_str (nomark _))
  (pss_one (ps_expr (pe_mcal M_put hr SC.c (pv 0) (pa_cons (pe_ix (k_ixT K) (pv 1) pe_int (fun _ _ => rfl)) (pa_cons (pe_ix (k_ixT K) (pv 1) pe_int (fun _ _ => rfl)) pa_nil)))))
  (pss_one (ps_if (pt_cmpR op_eq (pe_ix (k_ixT K) (pv 1) pe_int (fun _ _ => rfl)) pe_str (nomark _))
  (pss_one (ps_expr (pe_mcal M_drop hr SC.c (pv 0) (pa_cons (pe_ix (k_ixT K) (pv 1) pe_int (fun _ _ => rfl)) pa_nil))))
  (pss_one (ps_ret (pe_mcal M_take hr SC.c (pv 0) (pa_cons (pe_ix (k_ixT K) (pv 1) pe_int (fun _ _ => rfl)) pa_nil)))))))
  (pss_one (ps_ret pe_non))), ?_⟩
    obtain ⟨ra, xs, rfl, hra, hx⟩ := row_inv hv
    have hsl : ∃ dx w, Slt H a C dx w := by
      obtain ⟨dx, R, T, N, hv, rs, ts, kvs, rfl, nd, hsl, _⟩ := hst
      exact ⟨_, _, hsl⟩
    obtain ⟨dx, w, hsl⟩ := hsl
    have hS := off_sqt hra
    cases r with
    | put n k =>
      cases (show xs = [.str "put", .str n, .str k] from hx)
      refine ⟨.ref ra, rfl, ra, _, 0, .str "put", rfl, rfl, hS, atI_nat (j := 0) rfl, rfl, _, rfl, ifT (decide_eq_true rfl) ?_⟩
      refine ⟨.ref a, rfl, a, dx, w, rfl, hsl, .ref ra, rfl, ra, _, 1, .str n, rfl, rfl, hS, atI_nat (j := 1) rfl, .ref ra, rfl, ra, _, 2, .str k, rfl, rfl, hS, atI_nat (j := 2) rfl, ?_⟩
      have ho := ok.put n k rfl
      exact ⟨a, S, ks, cs, rows, things, names, n, k, rfl, hst, ho.1, ho.2, hn n k rfl, l1, l2, l3, fun H' st' kp => q H' S st' kp (Fr.refl _ _)⟩
    | drop n =>
      cases (show xs = [.str "drop", .str n] from hx)
      refine ⟨.ref ra, rfl, ra, _, 0, .str "drop", rfl, rfl, hS, atI_nat (j := 0) rfl, rfl, _, rfl, ifF s_pd ?_⟩
      refine ⟨.ref ra, rfl, ra, _, 0, .str "drop", rfl, rfl, hS, atI_nat (j := 0) rfl, rfl, _, rfl, ifT (decide_eq_true rfl) ?_⟩
      refine ⟨.ref a, rfl, a, dx, w, rfl, hsl, .ref ra, rfl, ra, _, 1, .str n, rfl, rfl, hS, atI_nat (j := 1) rfl, ?_⟩
      refine ⟨a, S, ks, cs, rows, things, names, n, rfl, hst, ok.drop n rfl, l1, l2, fun H' S' st' kp fr => q H' S' ?_ kp fr⟩
      rw [show (names ++ (Row.drop n).name?.toList) = names from List.append_nil _]
      exact st'
    | call c =>
      obtain ⟨u, e, hu⟩ := (show ∃ u, xs = [.str "call", u] ∧ Hd K (off H S) u (Tup.mk c) from hx)
      cases e
      refine ⟨.ref ra, rfl, ra, _, 0, .str "call", rfl, rfl, hS, atI_nat (j := 0) rfl, rfl, _, rfl, ifF s_cp ?_⟩
      refine ⟨.ref ra, rfl, ra, _, 0, .str "call", rfl, rfl, hS, atI_nat (j := 0) rfl, rfl, _, rfl, ifF s_cd ?_⟩
      refine ⟨.ref a, rfl, a, dx, w, rfl, hsl, .ref ra, rfl, ra, _, 1, u, rfl, rfl, hS, atI_nat (j := 1) rfl, ?_⟩
      refine ⟨a, S, ks, cs, rows, things, names, u, c, rfl, hst, vh, ok.call c rfl, hu, tnd, l1, fun H' st' kp => q H' S ?_ kp (Fr.refl _ _)⟩
      rw [show (names ++ (Row.call c).name?.toList) = names from List.append_nil _]
      exact st'
/-! ### a log's rows, one after another -/
theorem LogOk.fresh {ks : List Str} {cs : List (List Str)} {log : List Row} (h : LogOk ks cs log) {i : Nat} {n k : Str} (e : log[i]? = some (.put n k)) : n ∉ putNames (log.take i) := by
  have h1 := (h.take (i + 1)).nd
  rw [List.take_add_one, e, show ((some (Row.put n k)).toList) = [.put n k] from rfl, putNames_snoc] at h1
  have h2 := List.nodup_append.mp h1
  intro m
  exact h2.2.2 n m n (by simp [Row.name?]) rfl
theorem names_len (log : List Row) : (putNames log).length ≤ log.length := List.length_filterMap_le _ _
theorem run_len (log : List Row) : (runT log).length ≤ log.length := by
  have h := (run_sub log).length_le
  rw [List.length_map] at h
  exact Nat.le_trans h (names_len log)
theorem names_take {log : List Row} {i : Nat} {r : Row} (h : log[i]? = some r) : putNames (log.take (i + 1)) = putNames (log.take i) ++ r.name?.toList := by
  rw [List.take_add_one, h]
  exact putNames_snoc _ _
/-- do_row at the i-th row -/
theorem do_at {H H0 : Hp} {S : List Addr} {a : Addr} {ks : List Str} {cs : List (List Str)} {log : List Row} {i : Nat} {v : V} {r : Row} {Q : VK} {E : XK} (vh : VH ks cs) (ok : LogOk ks cs log) (e : log[i]? = some r)
    (hst : St K C H S a ks cs (log.take i) (runT (log.take i)) (putNames (log.take i))) (sm : Same H0 H) (fr : ∀ y ∈ S, H0 y = none) (hv : Hd K H0 v r)
    (q : ∀ H' S', St K C H' S' a ks cs (log.take (i + 1)) (runT (log.take (i + 1))) (putNames (log.take (i + 1))) → Kp S H H' → Fr S S' H → Same H0 H' → (∀ y ∈ S', H0 y = none) → Q (oV (step (runT (log.take i)) r).2) H') :
    spDo K C [.ref a, v] H Q E := by
  have hl := ok.len
  have h1 : (log.take i).length ≤ 200 := by rw [List.length_take]; omega
  have h2 := run_len (log.take i)
  have h3 := names_len (log.take i)
  refine ⟨a, S, ks, cs, _, _, _, v, r, rfl, hst, vh, Dp.mono (off_free sm fr) hv, ok.row e, fun n k z => ?_, (ok.take i).things, by omega, by omega, by omega, fun H' S' st' kp f => ?_⟩
  · rw [z] at e
    exact ok.fresh e
  · obtain ⟨n1, n2⟩ := st_next sm fr kp f
    refine q H' S' ?_ kp f n1 n2
    rw [runT_take e, names_take e, List.take_add_one, e]
    exact st'
/-! ### store_behind -/
def spBehind (K : PySem.W.Frag) (C : Addr) : Sp := fun vs H Q _ => ∃ (hv lv : V) (ks : List Str) (cs : List (List Str)) (log : List Row), vs = [hv, lv] ∧ Hd K H hv (hs ks cs) ∧ VH ks cs ∧ Hd K H lv (Tup.mk log) ∧ LogOk ks cs log ∧
  ∀ a S H', St K C H' S a ks cs log (runT log) (putNames log) → Same H H' → (∀ y ∈ S, H y = none) → Q (.ref a) H'
abbrev s_store_behind : Stmt := topS 25
abbrev p_store_behind : List Str := ["house", "rows"]
theorem sc_store_behind : FnScope ["house", "rows", "store", "row"] ["house", "rows"] (defScope s_store_behind) := ⟨rfl, rfl, rfl, by decide +kernel, rfl, by decide +kernel, by decide +kernel⟩
theorem c_store_behind (D : Def K mg "store_behind" s_store_behind p_store_behind) (SC : StC K mg C p0 p1 p2 p3) (M_init : MCal P w K mg base C "__init__" p_St_init 5 (spInit K C))
    (C_do_row : Cal P w K mg base "do_row" p_do_row 6 (spDo K C)) : Cal P w K mg base "store_behind" p_store_behind 7 (spBehind K C) := by
  refine D.cal sc_store_behind (fun vs H Q E h => ?_) (fun f cdv A outer s H vs Q E hr h => ?_)
  · obtain ⟨hv, lv, ks, cs, log, rfl, _⟩ := h; rfl
  · obtain ⟨hv, lv, ks, cs, log, rfl, hh, vh, hl, ok, q⟩ := h
    refine ⟨_, (pss_cons (ps_set (i := 2) sc_store_behind.nd rfl (.inl rfl) (pe_mk M_init hr SC.makes SC.kp SC.nm (pa_cons (pv 0) pa_nil)))
  (pss_cons (ps_for PassesOwn.never rfl (k_piT K (pv 1)) (pg_name (i := 3) sc_store_behind.nd rfl (by first | exact .inl rfl | exact .inr rfl))
  (pss_one (ps_expr (pe_cal C_do_row hr (pa_cons (pv 2) (pa_cons (pv 3) pa_nil))))))
  (pss_one (ps_ret (pv 2))))), ?_⟩
    obtain ⟨la, xs, rfl, hla, hxs⟩ := hd_tup_inv hl
    have xl : xs.length = log.length := all_len hxs
    refine ⟨hv, rfl, fun x dx nx ndx ne => ⟨x, dx, hv, ks, cs, H, rfl, rfl, nx, ndx, ne, hh, vh, fun H1 S st1 s1 fr1 => ⟨rfl, ?_⟩⟩⟩
    refine ⟨.ref la, rfl, la, rfl, ⟨_, Same.sqt s1 hla⟩, ?_⟩
    refine for_it (walk_tup (xs := xs)) (fun i σ H2 => (∃ y3, σ = [some hv, some (.ref la), some (.ref x), y3]) ∧ ∃ S, St K C H2 S x ks cs (log.take i) (runT (log.take i)) (putNames (log.take i)) ∧ Same H H2 ∧ ∀ y ∈ S, H y = none)
      ⟨⟨none, rfl⟩, S, st1, s1, fr1⟩ ?_ ?_ ?_
    · rintro i σ H2 _ ⟨_, S, _, s2, _⟩; exact Same.sqt s2 hla
    · rintro i z σ H2' H2 hi ⟨⟨y3, rfl⟩, S2, st2, s2, fr2⟩ ⟨rfl, hz⟩
      obtain ⟨r, hr', hd⟩ := all_get hxs hz
      refine ⟨.ref x, rfl, z, rfl, ?_⟩
      dsimp only [tNil]
      exact do_at vh ok hr' st2 s2 fr2 hd fun H3 S3 st3 _ _ s3 fr3 => ⟨⟨_, rfl⟩, S3, st3, s3, fr3⟩
    · rintro σ H2 ⟨⟨y3, rfl⟩, S2, st2, s2, fr2⟩
      rw [xl, List.take_length] at st2
      exact ⟨.ref x, rfl, q x S2 H2 st2 s2 fr2⟩
/-! ### told_by -/
theorem toldL_zero (log : List Row) : toldL log 0 = [] := rfl
theorem toldL_succ (log : List Row) (i : Nat) : toldL log (i + 1) = toldL log i ++ (tellRow log i).toList := by
  unfold toldL
  rw [List.range_succ, List.filterMap_append]
  cases h : tellRow log i <;> simp [h]
theorem toldL_lt {log : List Row} {n i : Nat} {o : Option Str} (h : (i, o) ∈ toldL log n) : i < n := by
  unfold toldL at h
  obtain ⟨j, hj, e⟩ := List.mem_filterMap.mp h
  unfold tellRow at e
  split at e
  · cases e
    exact List.mem_range.mp hj
  · cases e
theorem toldL_len (log : List Row) (n : Nat) : (toldL log n).length ≤ n := by
  have := List.length_filterMap_le (tellRow log) (List.range n)
  rw [List.length_range] at this
  exact this
theorem told_new (log : List Row) (i : Nat) : valV (toldK (toldL log i)) (.inl (i : Int)) = none := by
  cases e : valV (toldK (toldL log i)) (.inl (i : Int)) with
  | none => rfl
  | some v =>
    exfalso
    have := valV_in e
    unfold toldK at this
    rw [List.map_map] at this
    obtain ⟨⟨j, o⟩, hj, e'⟩ := List.mem_map.mp this
    have hlt := toldL_lt hj
    have : (j : Int) = i := by injection e'
    omega
theorem told_call {log : List Row} {i : Nat} {c : List Str} (e : log[i]? = some (.call c)) : toldK (toldL log (i + 1)) = toldK (toldL log i) ++ [(.inl (i : Int), oV (step (runT (log.take i)) (.call c)).2)] := by
  rw [toldL_succ]
  unfold toldK tellRow toldAt
  rw [e, List.map_append]
  rfl
theorem told_other {log : List Row} {i : Nat} {r : Row} (e : log[i]? = some r) (h : r.isCall = false) : toldL log (i + 1) = toldL log i := by
  rw [toldL_succ]
  unfold tellRow
  rw [e]
  cases r with
  | call c => cases h
  | put n k => simp
  | drop n => simp
def spTold (K : PySem.W.Frag) : Sp := fun vs H Q _ => ∃ (hv lv : V) (ks : List Str) (cs : List (List Str)) (log : List Row), vs = [hv, lv] ∧ Hd K H hv (hs ks cs) ∧ VH ks cs ∧ Hd K H lv (Tup.mk log) ∧ LogOk ks cs log ∧
  ∀ p H', H p = none → H' p = some (.dK (toldK (toldL log log.length))) → Same H H' → Q (.ref p) H'
abbrev s_told_by : Stmt := topS 26
abbrev p_told_by : List Str := ["house", "log"]
theorem sc_told_by : FnScope ["house", "log", "store", "found", "index", "row", "name"] ["house", "log"] (defScope s_told_by) := ⟨rfl, rfl, rfl, by decide +kernel, rfl, by decide +kernel, by decide +kernel⟩
theorem c_told_by (D : Def K mg "told_by" s_told_by p_told_by) (B : Blt mg) (SC : StC K mg C p0 p1 p2 p3) (M_init : MCal P w K mg base C "__init__" p_St_init 5 (spInit K C))
    (C_do_row : Cal P w K mg base "do_row" p_do_row 6 (spDo K C)) : Cal P w K mg base "told_by" p_told_by 7 (spTold K) := by
  refine D.cal sc_told_by (fun vs H Q E h => ?_) (fun f cdv A outer s H vs Q E hr h => ?_)
  · obtain ⟨hv, lv, ks, cs, log, rfl, _⟩ := h; rfl
  · obtain ⟨hv, lv, ks, cs, log, rfl, hh, vh, hl, ok, q⟩ := h
    refine ⟨_, (pss_cons (ps_par (i := 2) (j := 3) rfl sc_told_by.nd rfl rfl (by decide) rfl rfl (pa_cons (pe_mk M_init hr SC.makes SC.kp SC.nm (pa_cons (pv 0) pa_nil)) (pa_cons pe_dnewK pa_nil)) rfl)
  (pss_cons (ps_for PassesOwn.never rfl (k_enumT K B.enumerate (pa_cons (pv 1) pa_nil)) (k_tup K (n := 2) rfl (pgs_cons (pg_name (i := 4) sc_told_by.nd rfl (by first | exact .inl rfl | exact .inr rfl)) (pgs_cons (pg_name (i := 5) sc_told_by.nd rfl (by first | exact .inl rfl | exact .inr rfl)) pgs_nil)))
  (pss_cons (ps_set (i := 6) sc_told_by.nd rfl (.inl rfl) (pe_cal C_do_row hr (pa_cons (pv 2) (pa_cons (pv 5) pa_nil))))
  (pss_one (ps_if (pt_cmpR op_eq (pe_ix (k_ixT K) (pv 5) pe_int (fun _ _ => rfl)) pe_str (nomark _))
  (pss_one (ps_dput (hu_of hr) (pv 3) (pv 4) (pv 6) rfl))
  pss_nil))))
  (pss_one (ps_ret (pv 3))))), ?_⟩
    obtain ⟨la, xs, rfl, hla, hxs⟩ := hd_tup_inv hl
    have xl : xs.length = log.length := all_len hxs
    have ol := ok.len
    refine ⟨hv, rfl, fun x dx nx ndx ne => ⟨x, dx, hv, ks, cs, H, rfl, rfl, nx, ndx, ne, hh, vh, fun H1 S st1 s1 fr1 => ⟨rfl, fun D nD => ⟨.ref x, .ref D, rfl, ?_⟩⟩⟩⟩
    have nD0 := s1.free nD
    have hla1 : SqT K (upd H1 D (.dK [])) la xs := Same.sqt (s1.trans (same_new nD)) hla
    refine ⟨.ref la, rfl, la, xs, rfl, hla1, ?_⟩
    have DS : D ∉ S := fun z => by
      obtain ⟨o, e⟩ := st1.some D z
      rw [e] at nD; cases nD
    refine for_it (walk_enumT (xs := xs)) (fun i σ H2 => (∃ y4 y5 y6, σ = [some hv, some (.ref la), some (.ref x), some (.ref D), y4, y5, y6]) ∧ H2 D = some (.dK (toldK (toldL log i))) ∧
      ∃ S, St K C H2 S x ks cs (log.take i) (runT (log.take i)) (putNames (log.take i)) ∧ Same H H2 ∧ (∀ y ∈ S, H y = none) ∧ D ∉ S)
      ⟨⟨none, none, none, rfl⟩, upd_same, S, st1.same (same_new nD), s1.trans (same_new nD), fr1, DS⟩ ?_ ?_ ?_
    · rintro i σ H2 _ ⟨_, _, S, _, s2, _⟩; exact Same.sqt s2 hla
    · rintro i z σ H2 H3 hi ⟨⟨y4, y5, y6, rfl⟩, hD, S2, st2, s2, fr2, DS2⟩ ⟨T, u1, u2, rfl, nT, rfl, e1, e2⟩
      cases (Option.some.inj e1)
      obtain ⟨r, hr', hd⟩ := all_get hxs e2
      have s3 : Same H2 (upd H2 T (.tup [.int (i : Nat), u2])) := same_new nT
      refine ⟨T, _, rfl, sqt_new, rfl, .int (i : Nat), [u2], rfl, u2, [], rfl, rfl, ?_⟩
      refine ⟨.ref x, rfl, u2, rfl, ?_⟩
      dsimp only [tNil]
      refine do_at vh ok hr' (st2.same s3) (s2.trans s3) fr2 hd fun H4 S4 st4 kp4 f4 s4 fr4 => ?_
      have hD3 := s3 _ _ hD
      have hD4 := kp4 D _ DS2 hD3
      have DS4 : D ∉ S4 := fun z => by
        rcases f4 D z with w | w
        · exact DS2 w
        · rw [w] at hD3; cases hD3
      obtain ⟨ra, ys, rfl, hra, hx⟩ := row_inv hd
      have hS := Same.sqt s4 hra
      cases r with
      | put n k =>
        cases (show ys = [.str "put", .str n, .str k] from hx)
        refine ⟨.ref ra, rfl, ra, _, 0, .str "put", rfl, rfl, hS, atI_nat (j := 0) rfl, rfl, _, rfl, ifF s_pc ?_⟩
        exact ⟨⟨_, _, _, rfl⟩, by rw [told_other hr' rfl]; exact hD4, S4, st4, s4, fr4, DS4⟩
      | drop n =>
        cases (show ys = [.str "drop", .str n] from hx)
        refine ⟨.ref ra, rfl, ra, _, 0, .str "drop", rfl, rfl, hS, atI_nat (j := 0) rfl, rfl, _, rfl, ifF s_dc ?_⟩
        exact ⟨⟨_, _, _, rfl⟩, by rw [told_other hr' rfl]; exact hD4, S4, st4, s4, fr4, DS4⟩
      | call c =>
        obtain ⟨u, e, hu⟩ := (show ∃ u, ys = [.str "call", u] ∧ Hd K H u (Tup.mk c) from hx)
        cases e
        refine ⟨.ref ra, rfl, ra, _, 0, .str "call", rfl, rfl, hS, atI_nat (j := 0) rfl, rfl, _, rfl, ifT (decide_eq_true rfl) ?_⟩
        refine ⟨_, rfl, .ref D, rfl, .int (i : Nat), rfl, D, _, rfl, DPut.k (k := .inl (i : Int)) hD4 (small1000 ?_), ⟨_, _, _, rfl⟩, ?_, S4, st_dict st4 hD4 DS4, ?_, fr4, DS4⟩
        · unfold toldK
          rw [List.length_map]
          have := toldL_len log i
          omega
        · rw [upd_same, putK_new _ (told_new log i), told_call hr']
        · intro c o ec
          rw [upd_ne (ne_of_none ec nD0)]
          exact s4 _ _ ec
    · rintro σ H2 ⟨⟨y4, y5, y6, rfl⟩, hD, S2, st2, s2, fr2, DS2⟩
      rw [xl] at hD
      exact ⟨.ref D, rfl, q D H2 nD0 hD s2⟩
end
end CB
set_option Elab.async false
set_option linter.all false
set_option maxRecDepth 100000
set_option maxHeartbeats 4000000
namespace CB
open PySem PySem.Spec
open PyProof.Rows L2
open PySem.W (Datum Tup DatumOrd)
open SlX (Slt slH slH_slt slH_twice putS)
/-! ### about the told, the taken and the served -/
theorem told_keys (log : List Row) : ∀ n, ((toldL log n).map (·.1)).Sublist (List.range n)
  | 0 => List.Sublist.refl _
  | n + 1 => by
    rw [toldL_succ, List.map_append, List.range_succ]
    refine (told_keys log n).append ?_
    unfold tellRow
    split
    · exact List.Sublist.refl _
    · exact List.nil_sublist _
theorem range_nodup (n : Nat) : (List.range n).Nodup := List.nodup_range
theorem told_nd (log : List Row) (n : Nat) : ((toldL log n).map (·.1)).Nodup := (range_nodup n).sublist (told_keys log n)
theorem valV_at {kvs : List (Key × V)} : ∀ {i : Nat} {k : Key} {v : V}, (kvs.map (·.1)).Nodup → kvs[i]? = some (k, v) → valV kvs k = some v := by
  induction kvs with
  | nil => intro i k v _ h; simp at h
  | cons p r ih =>
    intro i k v nd h
    rw [List.map_cons, List.nodup_cons] at nd
    cases i with
    | zero =>
      simp at h
      subst h
      exact valV_pos (p := (k, v)) rfl
    | succ i =>
      have h : r[i]? = some (k, v) := by simpa using h
      have hne : ¬ p.1 = k := fun e => nd.1 (by rw [e]; exact List.mem_map.mpr ⟨(k, v), List.mem_of_getElem? h, rfl⟩)
      rw [valV_neg hne]
      exact ih nd.2 h
theorem toldK_nd (log : List Row) (n : Nat) : ((toldK (toldL log n)).map (·.1)).Nodup := by
  unfold toldK
  rw [List.map_map]
  have h := told_nd log n
  have e : (toldL log n).map ((·.1) ∘ fun p : Nat × Option Str => ((Sum.inl (p.1 : Int) : Key), oV p.2)) = ((toldL log n).map (·.1)).map fun i : Nat => (Sum.inl (i : Int) : Key) := by
    rw [List.map_map]; rfl
  rw [e]
  rw [List.nodup_iff_pairwise_ne] at h ⊢
  rw [List.pairwise_map]
  refine h.imp ?_
  intro a b h e
  have e' : (Sum.inl (a : Int) : Key) = Sum.inl (b : Int) := e
  injection e' with e'
  exact h (by omega)
def takenOf (log : List Row) (l : List (Nat × Option Str)) : List (Nat × Nat) := l.filterMap fun p => p.2.map fun n => (p.1, putIx log n)
theorem taken_def (log : List Row) : takenL log = takenOf log (toldL log log.length) := rfl
theorem takenOf_snoc (log : List Row) (l : List (Nat × Option Str)) (p : Nat × Option Str) : takenOf log (l ++ [p]) = takenOf log l ++ (p.2.map fun n => (p.1, putIx log n)).toList := by
  unfold takenOf
  rw [List.filterMap_append]
  cases h : p.2 <;> simp [h]
theorem takenOf_mem {log : List Row} {l : List (Nat × Option Str)} {i j : Nat} (h : (i, j) ∈ takenOf log l) : ∃ n, (i, some n) ∈ l ∧ j = putIx log n := by
  unfold takenOf at h
  obtain ⟨⟨a, o⟩, hm, e⟩ := List.mem_filterMap.mp h
  cases o with
  | none => cases e
  | some n => cases e; exact ⟨n, hm, rfl⟩
theorem taken_new {log : List Row} {l : List (Nat × Option Str)} {i : Nat} (h : ∀ o, (i, o) ∉ l) : valV (takenK (takenOf log l)) (.inl (i : Int)) = none := by
  cases e : valV (takenK (takenOf log l)) (.inl (i : Int)) with
  | none => rfl
  | some v =>
    exfalso
    have := valV_in e
    unfold takenK at this
    rw [List.map_map] at this
    obtain ⟨⟨a, b⟩, hm, e'⟩ := List.mem_map.mp this
    have : (a : Int) = i := by injection e'
    have : a = i := by omega
    subst this
    obtain ⟨n, h1, _⟩ := takenOf_mem hm
    exact h _ h1
theorem toldAt_call {log : List Row} {i : Nat} {n : Str} (h : toldAt log i = some n) : ∃ c, log[i]? = some (.call c) ∧ n ∈ putNames (log.take i) := by
  unfold toldAt at h
  cases e : log[i]? with
  | none => rw [e] at h; cases h
  | some r =>
    rw [e] at h
    cases r with
    | put n k => cases h
    | drop n => cases h
    | call c =>
      refine ⟨c, rfl, ?_⟩
      have h : (step (runT (log.take i)) (.call c)).2 = some n := h
      cases f : firstOf c (runT (log.take i)) with
      | none => rw [step_none f] at h; cases h
      | some t =>
        rw [step_some f] at h
        cases h
        exact (run_sub (log.take i)).subset (List.mem_map.mpr ⟨t, (firstOf_mem f).1, rfl⟩)
theorem told_mem {log : List Row} {n i : Nat} {o : Option Str} (h : (i, o) ∈ toldL log n) : o = toldAt log i ∧ (∃ c, log[i]? = some (.call c)) ∧ i < n := by
  refine ⟨?_, ?_, toldL_lt h⟩
  all_goals
    unfold toldL at h
    obtain ⟨j, hj, e⟩ := List.mem_filterMap.mp h
    unfold tellRow at e
    split at e
    · cases e
      first | rfl | exact ⟨_, by assumption⟩
    · cases e
theorem mem_told {log : List Row} {n i : Nat} {c : List Str} (h : log[i]? = some (.call c)) (hi : i < n) : (i, toldAt log i) ∈ toldL log n := by
  unfold toldL
  refine List.mem_filterMap.mpr ⟨i, List.mem_range.mpr hi, ?_⟩
  unfold tellRow
  rw [h]
theorem putL_succ (log : List Row) (i : Nat) : putL log (i + 1) = putL log i ++ (putRow log i).toList := by
  unfold putL
  rw [List.range_succ, List.filterMap_append]
  cases h : putRow log i <;> simp [h]
theorem putL_mem {log : List Row} {n : Str} (h : n ∈ putNames log) : ∃ j, (n, j) ∈ putL log log.length := by
  unfold putNames at h
  obtain ⟨r, hr, e⟩ := List.mem_filterMap.mp h
  obtain ⟨j, hj⟩ := List.mem_iff_getElem?.mp hr
  cases r with
  | put m k =>
    cases e
    refine ⟨j, ?_⟩
    unfold putL
    refine List.mem_filterMap.mpr ⟨j, List.mem_range.mpr (List.getElem?_eq_some_iff.mp hj).1, ?_⟩
    unfold putRow
    rw [hj]
  | call c => cases e
  | drop m => cases e
theorem putL_name {log : List Row} {n : Str} {i j : Nat} (h : (n, j) ∈ putL log i) : j < i ∧ ∃ k, log[j]? = some (.put n k) := by
  unfold putL at h
  obtain ⟨j', hj, e⟩ := List.mem_filterMap.mp h
  unfold putRow at e
  split at e
  · cases e
    exact ⟨List.mem_range.mp hj, _, by assumption⟩
  · cases e
theorem valV_putK (l : List (Str × Nat)) (n : Str) : valV (putK' l) (.inr n) = (l.find? fun p => decide (p.1 = n)).map fun p => .int (p.2 : Int) := by
  induction l with
  | nil => rfl
  | cons p r ih =>
    by_cases e : p.1 = n
    · subst e
      rw [show putK' (p :: r) = (.inr p.1, .int (p.2 : Int)) :: putK' r from rfl, valV_pos rfl]
      simp
    · rw [show putK' (p :: r) = (.inr p.1, .int (p.2 : Int)) :: putK' r from rfl, valV_neg (fun z => e (by cases z; rfl)), ih]
      simp [e]
theorem put_ix {log : List Row} {n : Str} (h : n ∈ putNames log) : valV (putK' (putL log log.length)) (.inr n) = some (.int (putIx log n : Int)) := by
  obtain ⟨j, hj⟩ := putL_mem h
  rw [valV_putK]
  unfold putIx
  cases e : (putL log log.length).find? fun p => decide (p.1 = n) with
  | none =>
    have := List.find?_eq_none.mp e _ hj
    simp at this
  | some p => rfl
/-- a fresh name's put -/
theorem put_new {log : List Row} {i : Nat} {n k : Str} (nd : (putNames log).Nodup) (h : log[i]? = some (.put n k)) : valV (putK' (putL log i)) (.inr n) = none := by
  rw [valV_putK]
  cases e : (putL log i).find? fun p => decide (p.1 = n) with
  | none => rfl
  | some p =>
    exfalso
    have h1 := List.mem_of_find?_eq_some e
    have h2 : p.1 = n := by simpa using List.find?_some e
    obtain ⟨m, j⟩ := p
    obtain rfl : n = m := h2.symm
    obtain ⟨hlt, k', hk⟩ := putL_name h1
    have hf : n ∉ putNames (log.take i) := by
      have h1 : (putNames (log.take (i + 1))).Nodup := nd.sublist (putNames_take log (i + 1))
      rw [names_take h] at h1
      intro m
      exact (List.nodup_append.mp h1).2.2 n m n (by simp [Row.name?]) rfl
    apply hf
    unfold putNames
    refine List.mem_filterMap.mpr ⟨.put n k', List.mem_of_getElem? (i := j) ?_, rfl⟩
    rw [List.getElem?_take, if_pos hlt]
    exact hk
theorem put_snoc {log : List Row} {i : Nat} {n k : Str} (h : log[i]? = some (.put n k)) : putK' (putL log (i + 1)) = putK' (putL log i) ++ [(.inr n, .int (i : Int))] := by
  rw [putL_succ]
  unfold putRow putK'
  rw [h, List.map_append]
  rfl
theorem put_other {log : List Row} {i : Nat} {r : Row} (h : log[i]? = some r) (e : r.name? = none) : putL log (i + 1) = putL log i := by
  rw [putL_succ]
  unfold putRow
  rw [h]
  cases r with
  | put n k => cases e
  | call c => simp
  | drop n => simp
theorem putL_len (log : List Row) (n : Nat) : (putL log n).length ≤ n := by
  have := List.length_filterMap_le (putRow log) (List.range n)
  rw [List.length_range] at this
  exact this
theorem taken_some {log : List Row} {i : Nat} (hi : i < log.length) : (valV (takenK (takenL log)) (.inl (i : Int))).isSome = (toldAt log i).isSome := by
  rw [← valV_any]
  unfold takenK
  rw [List.any_map, Bool.eq_iff_iff, List.any_eq_true]
  constructor
  · rintro ⟨⟨a, b⟩, hm, e⟩
    have e : (Sum.inl (a : Int) : Key) = .inl (i : Int) := by simpa using e
    have : (a : Int) = i := by injection e
    have : a = i := by omega
    subst this
    obtain ⟨n, h1, _⟩ := takenOf_mem (by rw [taken_def] at hm; exact hm)
    rw [← (told_mem h1).1]
    rfl
  · intro h
    cases e : toldAt log i with
    | none => rw [e] at h; cases h
    | some n =>
      obtain ⟨c, hc, _⟩ := toldAt_call e
      have := mem_told hc hi
      rw [e] at this
      refine ⟨(i, putIx log n), ?_, by simp⟩
      rw [taken_def]
      unfold takenOf
      exact List.mem_filterMap.mpr ⟨_, this, rfl⟩
theorem cnt_succ (log : List Row) (n : Nat) : cnt log (n + 1) = cnt log n + if (toldAt log n).isSome = true then 1 else 0 := by
  unfold cnt
  rw [List.range_succ, List.filter_append, List.length_append]
  cases h : (toldAt log n).isSome <;> simp [h]
theorem served_succ (log : List Row) (n : Nat) : servedL log (n + 1) = servedL log n ++ [((cnt log (n + 1) : Nat) : Int)] := by
  unfold servedL
  rw [List.range_succ (n := n + 1), List.map_append]
  rfl
theorem served_last (log : List Row) (n : Nat) : ∃ l, servedL log n = l ++ [((cnt log n : Nat) : Int)] := by
  unfold servedL
  rw [List.range_succ, List.map_append]
  exact ⟨_, rfl⟩
theorem served_len (log : List Row) (n : Nat) : (servedL log n).length = n + 1 := by
  unfold servedL
  rw [List.length_map, List.length_range]
theorem cutTo (xs : List V) (m : Nat) : cutV xs none (some (m : Int)) = xs.take m := by
  unfold cutV
  rw [HT.sIx_none, show HT.sIx xs.length xs.length (some (m : Int)) = min m xs.length from HT.sIx_nat xs.length xs.length m, List.drop_zero, Nat.sub_zero]
  rcases Nat.le_total m xs.length with h | h
  · rw [Nat.min_eq_left h]
  · rw [Nat.min_eq_right h, List.take_length, List.take_of_length_le h]
section
variable {P : Program} {w : World} {K : PySem.W.Frag} {mg : Str → Option Value} {base : Heap} {C p0 p1 p2 p3 : Addr}
/-! ### taken_by -/
def spTaken (K : PySem.W.Frag) : Sp := fun vs H Q _ => ∃ (hv lv : V) (ks : List Str) (cs : List (List Str)) (log : List Row), vs = [hv, lv] ∧ Hd K H hv (hs ks cs) ∧ VH ks cs ∧ Hd K H lv (Tup.mk log) ∧ LogOk ks cs log ∧
  ∀ p H', H p = none → H' p = some (.dK (takenK (takenL log))) → Same H H' → Q (.ref p) H'
abbrev s_taken_by : Stmt := topS 27
abbrev p_taken_by : List Str := ["house", "log"]
theorem sc_taken_by : FnScope ["house", "log", "puts", "told", "index", "row"] ["house", "log"] (defScope s_taken_by) := ⟨rfl, rfl, rfl, by decide +kernel, rfl, by decide +kernel, by decide +kernel⟩
theorem c_taken_by (D : Def K mg "taken_by" s_taken_by p_taken_by) (B : Blt mg) (C_told_by : Cal P w K mg base "told_by" p_told_by 7 (spTold K)) : Cal P w K mg base "taken_by" p_taken_by 8 (spTaken K) := by
  refine D.cal sc_taken_by (fun vs H Q E h => ?_) (fun f cdv A outer s H vs Q E hr h => ?_)
  · obtain ⟨hv, lv, ks, cs, log, rfl, _⟩ := h; rfl
  · obtain ⟨hv, lv, ks, cs, log, rfl, hh, vh, hl, ok, q⟩ := h
    refine ⟨_, (pss_cons (ps_set (i := 2) sc_taken_by.nd rfl (.inr rfl) (pe_dc rfl sc_taken_by.nd (k_enumT K B.enumerate (pa_cons (pv 1) pa_nil)) (blkOk_by (own := [("index", 4), ("row", 5)]) (by kernel_rfl)) (fun _ _ _ _ _ => (k_tup K (n := 2) rfl (pgs_cons (pg_name (i := 4) sc_taken_by.nd rfl (by first | exact .inl rfl | exact .inr rfl)) (pgs_cons (pg_name (i := 5) sc_taken_by.nd rfl (by first | exact .inl rfl | exact .inr rfl)) pgs_nil)))) (fun _ _ _ _ _ => (pts_one (pt_cmpR op_eq (pe_ix (k_ixT K) (pv 5) pe_int (fun _ _ => rfl)) pe_str (nomark _)))) (fun _ _ _ _ _ => (pe_ix (k_ixT K) (pv 5) pe_int (fun _ _ => rfl))) (fun _ _ _ _ _ => (pv 4))))
  (pss_cons (ps_set (i := 3) sc_taken_by.nd rfl (.inr rfl) (pe_cal C_told_by hr (pa_cons (pv 0) (pa_cons (pv 1) pa_nil))))
  (pss_one (ps_ret (pe_lock (pe_dc rfl sc_taken_by.nd (pi_keys (pv 3)) (blkOk_by (own := [("index", 4)]) (by kernel_rfl)) (fun _ _ _ _ _ => (pg_name (i := 4) sc_taken_by.nd rfl (by first | exact .inl rfl | exact .inr rfl))) (fun _ _ _ _ _ => (pts_one (pt_cmpR op_notN (pe_dget (hu_of hr) (pv 3) (pv 4) (fun _ _ => rfl)) pe_non (nomark _)))) (fun _ _ _ _ _ => (pv 4)) (fun _ _ _ _ _ => (pe_dget (hu_of hr) (pv 2) (pe_dget (hu_of hr) (pv 3) (pv 4) (fun _ _ => rfl)) (fun _ _ => rfl))))))))), ?_⟩
    obtain ⟨la, xs, rfl, hla, hxs⟩ := hd_tup_inv hl
    have xl : xs.length = log.length := all_len hxs
    have ol := ok.len
    refine ⟨.ref la, rfl, la, xs, rfl, hla, fun PD nPD => ?_⟩
    refine dc_it (walk_enumT (xs := xs)) (fun i H2 => Same H H2 ∧ H2 PD = some (.dK (putK' (putL log i)))) ⟨same_new nPD, upd_same⟩ (fun i H2 _ t => Same.sqt t.1 hla) ?_ ?_
    · rintro i z H2 H3 hi ⟨s2, e⟩ ⟨T, u1, u2, rfl, nT, rfl, e1, e2⟩
      cases (Option.some.inj e1)
      obtain ⟨r, hr', hd⟩ := all_get hxs e2
      have s3 : Same H2 (upd H2 T (.tup [.int (i : Nat), u2])) := same_new nT
      refine ⟨T, _, rfl, sqt_new, rfl, .int (i : Nat), [u2], rfl, u2, [], rfl, rfl, rfl, ?_⟩
      obtain ⟨ra, ys, rfl, hra, hx⟩ := row_inv hd
      have hS := Same.sqt (s2.trans s3) hra
      have e3 := s3 _ _ e
      cases r with
      | put n k =>
        cases (show ys = [.str "put", .str n, .str k] from hx)
        refine ⟨.ref ra, rfl, ra, _, 0, .str "put", rfl, rfl, hS, atI_nat (j := 0) rfl, rfl, _, rfl, ifT (decide_eq_true rfl) ?_⟩
        refine ⟨.ref ra, rfl, ra, _, 1, .str n, rfl, rfl, hS, atI_nat (j := 1) rfl, .int (i : Nat), rfl, _, .inr n, rfl, e3, small1000 ?_, ?_, ?_⟩
        · unfold putK'
          rw [List.length_map]
          have := putL_len log i
          omega
        · intro c o ec
          rw [upd_ne (ne_of_none ec nPD)]
          exact s3 _ _ (s2 _ _ ec)
        · rw [upd_same, putK_new _ (put_new ok.nd hr'), put_snoc hr']
      | drop n =>
        cases (show ys = [.str "drop", .str n] from hx)
        refine ⟨.ref ra, rfl, ra, _, 0, .str "drop", rfl, rfl, hS, atI_nat (j := 0) rfl, rfl, _, rfl, ifF s_pd ⟨s2.trans s3, ?_⟩⟩
        rw [put_other hr' rfl]; exact e3
      | call c =>
        obtain ⟨u, e, hu⟩ := (show ∃ u, ys = [.str "call", u] ∧ Hd K H u (Tup.mk c) from hx)
        cases e
        refine ⟨.ref ra, rfl, ra, _, 0, .str "call", rfl, rfl, hS, atI_nat (j := 0) rfl, rfl, _, rfl, ifF s_cp ⟨s2.trans s3, ?_⟩⟩
        rw [put_other hr' rfl]; exact e3
    · rintro H2 ⟨s2, ePD⟩
      rw [xl] at ePD
      refine ⟨hv, rfl, .ref la, rfl, hv, .ref la, ks, cs, log, rfl, Dp.mono s2 hh, vh, Dp.mono s2 hl, ok, fun TD H3 nTD eTD s3 => ?_⟩
      have nPT : PD ≠ TD := ne_of_none ePD nTD
      have ePD3 := s3 _ _ ePD
      have nTD0 := s2.free nTD
      -- the told one is locked
      refine ⟨TD, _, eTD, trivial, fun od => ?_⟩
      generalize hG : upd H3 TD (.frz od (.dK (toldK (toldL log log.length)))) = G
      have gT : G TD = some (.frz od (.dK (toldK (toldL log log.length)))) := by rw [← hG]; exact upd_same
      have gP : G PD = some (.dK (putK' (putL log log.length))) := by rw [← hG, upd_ne nPT]; exact ePD3
      have gF : ∀ c, G c = none → H3 c = none := by
        intro c e
        rw [← hG] at e
        exact (up_none e).2
      refine ⟨.ref TD, rfl, TD, od, rfl, .inl ⟨_, gT, fun D nD => ?_⟩⟩
      have nD3 := gF D nD
      have nDT : D ≠ TD := (ne_of_none gT nD).symm
      have tl : (toldK (toldL log log.length)).length = (toldL log log.length).length := by unfold toldK; rw [List.length_map]
      refine dc_it walk_keys (fun i H4 => Same G H4 ∧ H4 D = some (.dK (takenK (takenOf log ((toldL log log.length).take i))))) ⟨same_new nD, upd_same⟩ (fun i H4 _ t => t.1 _ _ gT) ?_ ?_
      · rintro i z H4' H4 hi ⟨s4, e4⟩ ⟨rfl, k, v, hk, rfl⟩
        obtain ⟨⟨j, o⟩, hj, ekv⟩ := map_get hk
        cases ekv
        have hget : DGet H4 TD (.int (j : Int)) (some (oV o)) := .inl ⟨_, .inl (j : Int), .inr ⟨od, s4 _ _ gT⟩, rfl, (valV_at (toldK_nd log log.length) hk).symm⟩
        refine ⟨rfl, .ref TD, rfl, .int (j : Int), rfl, TD, oV o, rfl, hget, rfl, _, rfl, ?_⟩
        have hjm : (j, o) ∈ toldL log log.length := List.mem_of_getElem? hj
        have hni : ∀ o', (j, o') ∉ (toldL log log.length).take i := by
          intro o' hm
          obtain ⟨m, hm⟩ := List.mem_iff_getElem?.mp hm
          rw [List.getElem?_take] at hm
          by_cases hmi : m < i
          · rw [if_pos hmi] at hm
            have nd := told_nd log log.length
            rw [List.nodup_iff_pairwise_ne] at nd
            obtain ⟨h1, e1⟩ := List.getElem?_eq_some_iff.mp hm
            obtain ⟨h2, e2⟩ := List.getElem?_eq_some_iff.mp hj
            have := List.pairwise_iff_getElem.mp nd m i (by rw [List.length_map]; exact h1) (by rw [List.length_map]; exact h2) hmi
            rw [List.getElem_map, List.getElem_map, e1, e2] at this
            exact this rfl
          · rw [if_neg hmi] at hm; cases hm
        have tk : (toldL log log.length).take (i + 1) = (toldL log log.length).take i ++ [(j, o)] := by
          rw [List.take_add_one, hj]; rfl
        cases o with
        | none =>
          refine ifF (by simp [oV]) ⟨s4, ?_⟩
          rw [tk, takenOf_snoc]
          rw [show ((j, (none : Option Str)).2.map fun n => ((j, (none : Option Str)).1, putIx log n)).toList = [] from rfl, List.append_nil]
          exact e4
        | some n =>
          obtain ⟨eo, ⟨c, hc⟩, hlt⟩ := told_mem hjm
          obtain ⟨_, _, hn⟩ := toldAt_call eo.symm
          have hn' : n ∈ putNames log := (putNames_take log j).subset hn
          refine ifT (by simp [oV]) ?_
          refine ⟨.int (j : Int), rfl, .ref PD, rfl, .ref TD, rfl, .int (j : Int), rfl, TD, .str n, rfl, hget, PD, .int (putIx log n : Int), rfl, ?_, _, .inl (j : Int), rfl, e4, small1000 ?_, ?_, ?_⟩
          · exact .inl ⟨_, .inr n, .inl (s4 _ _ gP), rfl, (put_ix hn').symm⟩
          · unfold takenK takenOf
            rw [List.length_map]
            have h1 := List.length_filterMap_le (fun p : Nat × Option Str => p.2.map fun n => (p.1, putIx log n)) ((toldL log log.length).take i)
            rw [List.length_take] at h1
            have h2 := toldL_len log log.length
            omega
          · intro c o ec
            rw [upd_ne (ne_of_none ec nD)]
            exact s4 _ _ ec
          · rw [upd_same, putK_new _ (taken_new hni), tk, takenOf_snoc]
            unfold takenK
            rw [List.map_append]
            rfl
      · rintro H4 ⟨s4, e4⟩
        rw [tl, List.take_length] at e4
        refine ⟨s4 _ _ gT, ?_⟩
        refine q D _ (s2.trans s3 |>.free nD3) ?_ ?_
        · rw [upd_ne nDT]; exact e4
        · intro c o ec
          have e3 := (s2.trans s3) _ _ ec
          have nc : c ≠ TD := ne_of_none ec nTD0
          rw [upd_ne nc]
          refine s4 _ _ ?_
          rw [← hG, upd_ne nc]
          exact e3
/-! ### there_at, amounts_at -/
def spThereAt (K : PySem.W.Frag) : Sp := fun vs H Q _ => ∃ (hv lv : V) (ks : List Str) (cs : List (List Str)) (log : List Row) (m : Nat), vs = [hv, lv, .int (m : Int)] ∧ Hd K H hv (hs ks cs) ∧ VH ks cs ∧ Hd K H lv (Tup.mk log) ∧ LogOk ks cs log ∧
  ∀ p H', H p = none → Ls K [] H' p (runT (log.take m)) → Same H H' → Q (.ref p) H'
/-- log[:moment] -/
theorem sl_log {H : Hp} {la : Addr} {xs : List V} {log : List Row} {m : Nat} {Q : VK} (hla : SqT K H la xs) (hxs : HdAll K H xs log)
    (q : ∀ v H', Same H H' → Hd K H' v (Tup.mk (log.take m)) → Q v H') : rSlA K (.ref la) none (some (m : Int)) H Q := by
  refine ⟨la, xs, rfl, hla, fun z => ?_, fun _ p np => ?_⟩
  · obtain ⟨_, z2⟩ := z
    rw [show HT.sIx xs.length xs.length (some (m : Int)) = min m xs.length from HT.sIx_nat xs.length xs.length m] at z2
    have xl : xs.length = log.length := all_len hxs
    refine q _ H (Same.refl _) ?_
    rw [List.take_of_length_le (by omega)]
    exact hd_tup hla hxs
  · rw [cutTo]
    exact q _ _ (same_new np) (hd_tup sqt_new (DpAll.mono (same_new np) (all_take m hxs)))
abbrev s_there_at : Stmt := topS 28
abbrev p_there_at : List Str := ["house", "log", "moment"]
theorem sc_there_at : FnScope ["house", "log", "moment"] ["house", "log", "moment"] (defScope s_there_at) := ⟨rfl, rfl, rfl, by decide +kernel, rfl, by decide +kernel, by decide +kernel⟩
theorem c_there_at (D : Def K mg "there_at" s_there_at p_there_at) (SC : StC K mg C p0 p1 p2 p3) (C_store_behind : Cal P w K mg base "store_behind" p_store_behind 7 (spBehind K C))
    (M_there : MCal P w K mg base C "there" p_St_there 7 (spThere K C)) : Cal P w K mg base "there_at" p_there_at 8 (spThereAt K) := by
  refine D.cal sc_there_at (fun vs H Q E h => ?_) (fun f cdv A outer s H vs Q E hr h => ?_)
  · obtain ⟨hv, lv, ks, cs, log, m, rfl, _⟩ := h; rfl
  · obtain ⟨hv, lv, ks, cs, log, m, rfl, hh, vh, hl, ok, q⟩ := h
    refine ⟨_, (pss_one (ps_ret (pe_mcal0 M_there hr SC.c (pe_cal C_store_behind hr (pa_cons (pv 0) (pa_cons (pe_slice (k_slT K) (pv 1) po_none (po_some (pv 2))) pa_nil)))))), ?_⟩
    obtain ⟨la, xs, rfl, hla, hxs⟩ := hd_tup_inv hl
    refine ⟨hv, rfl, .ref la, rfl, .int (m : Int), rfl, m, rfl, sl_log hla hxs fun v H1 s1 hv1 => ?_⟩
    refine ⟨hv, v, ks, cs, log.take m, rfl, Dp.mono s1 hh, vh, hv1, ok.take m, fun a S H2 st s2 fr => ?_⟩
    have hst := st
    obtain ⟨dx, R, T, N, hv, rs, ts, kvs, rfl, nd, hsl, _⟩ := st
    refine ⟨a, dx, _, rfl, hsl, a, _, ks, cs, _, _, _, rfl, hst, fun p acc H3 np e3 hacc s3 => ?_⟩
    refine q p H3 ((s1.trans s2).free np) ⟨acc, e3, DpAll.mono (fun c o ec => ?_) hacc⟩ ((s1.trans s2).trans s3)
    obtain ⟨nc, ec⟩ := off_some ec
    exact off_of (by simpa using ne_of_none ec np) (s3 _ _ ec)
def spAmountsAt (K : PySem.W.Frag) : Sp := fun vs H Q _ => ∃ (hv lv : V) (ks : List Str) (cs : List (List Str)) (log : List Row) (m : Nat), vs = [hv, lv, .int (m : Int)] ∧ Hd K H hv (hs ks cs) ∧ VH ks cs ∧ Hd K H lv (Tup.mk log) ∧ LogOk ks cs log ∧
  ∀ p sk H', H p = none → Srt ks sk → H' p = some (.dK (amK sk (runT (log.take m)))) → Same H H' → Q (.ref p) H'
abbrev s_amounts_at : Stmt := topS 29
abbrev p_amounts_at : List Str := ["house", "log", "moment"]
theorem sc_amounts_at : FnScope ["house", "log", "moment"] ["house", "log", "moment"] (defScope s_amounts_at) := ⟨rfl, rfl, rfl, by decide +kernel, rfl, by decide +kernel, by decide +kernel⟩
theorem c_amounts_at (D : Def K mg "amounts_at" s_amounts_at p_amounts_at) (SC : StC K mg C p0 p1 p2 p3) (C_store_behind : Cal P w K mg base "store_behind" p_store_behind 7 (spBehind K C))
    (M_amounts : MCal P w K mg base C "amounts" p_St_amounts 7 (spAmounts K C)) : Cal P w K mg base "amounts_at" p_amounts_at 8 (spAmountsAt K) := by
  refine D.cal sc_amounts_at (fun vs H Q E h => ?_) (fun f cdv A outer s H vs Q E hr h => ?_)
  · obtain ⟨hv, lv, ks, cs, log, m, rfl, _⟩ := h; rfl
  · obtain ⟨hv, lv, ks, cs, log, m, rfl, hh, vh, hl, ok, q⟩ := h
    refine ⟨_, (pss_one (ps_ret (pe_mcal0 M_amounts hr SC.c (pe_cal C_store_behind hr (pa_cons (pv 0) (pa_cons (pe_slice (k_slT K) (pv 1) po_none (po_some (pv 2))) pa_nil)))))), ?_⟩
    obtain ⟨la, xs, rfl, hla, hxs⟩ := hd_tup_inv hl
    refine ⟨hv, rfl, .ref la, rfl, .int (m : Int), rfl, m, rfl, sl_log hla hxs fun v H1 s1 hv1 => ?_⟩
    refine ⟨hv, v, ks, cs, log.take m, rfl, Dp.mono s1 hh, vh, hv1, ok.take m, fun a S H2 st s2 fr => ?_⟩
    have hst := st
    obtain ⟨dx, R, T, N, hv, rs, ts, kvs, rfl, nd, hsl, _⟩ := st
    exact ⟨a, dx, _, rfl, hsl, a, _, ks, cs, _, _, _, rfl, hst, vh, run_kinds _ (ok.take m).rows, fun p sk H3 np hs e3 s3 => q p sk H3 ((s1.trans s2).free np) hs e3 ((s1.trans s2).trans s3)⟩
/-! ### served_at -/
def spServed (K : PySem.W.Frag) : Sp := fun vs H Q _ => ∃ (hv lv : V) (ks : List Str) (cs : List (List Str)) (log : List Row), vs = [hv, lv] ∧ Hd K H hv (hs ks cs) ∧ VH ks cs ∧ Hd K H lv (Tup.mk log) ∧ LogOk ks cs log ∧
  ∀ p H', H p = none → H' p = some (.lst ((servedL log log.length).map V.int)) → Same H H' → Q (.ref p) H'
abbrev s_served_at : Stmt := topS 30
abbrev p_served_at : List Str := ["house", "log"]
theorem sc_served_at : FnScope ["house", "log", "taken", "found", "index"] ["house", "log"] (defScope s_served_at) := ⟨rfl, rfl, rfl, by decide +kernel, rfl, by decide +kernel, by decide +kernel⟩
theorem c_served_at (D : Def K mg "served_at" s_served_at p_served_at) (B : Blt mg) (C_taken_by : Cal P w K mg base "taken_by" p_taken_by 8 (spTaken K)) : Cal P w K mg base "served_at" p_served_at 9 (spServed K) := by
  refine D.cal sc_served_at (fun vs H Q E h => ?_) (fun f cdv A outer s H vs Q E hr h => ?_)
  · obtain ⟨hv, lv, ks, cs, log, rfl, _⟩ := h; rfl
  · obtain ⟨hv, lv, ks, cs, log, rfl, hh, vh, hl, ok, q⟩ := h
    refine ⟨_, (pss_cons (ps_par (i := 2) (j := 3) rfl sc_served_at.nd rfl rfl (by decide) rfl rfl (pa_cons (pe_cal C_taken_by hr (pa_cons (pv 0) (pa_cons (pv 1) pa_nil))) (pa_cons (pe_lst (pa_cons pe_int pa_nil)) pa_nil)) rfl)
  (pss_cons (ps_for PassesOwn.never rfl (pi_range1 (by rfl) B.range (pa_cons (pe_callB (k_len K) (by rfl) B.len (by decide +kernel) (pa_cons (pv 1) pa_nil)) pa_nil)) (pg_name (i := 4) sc_served_at.nd rfl (by first | exact .inl rfl | exact .inr rfl))
  (pss_one (ps_expr (k_bm K PySem.F.plainAttrs_list PySem.F.slot_list_append PySem.F.type_list_append mt_append (pv 3) (pa_cons (pe_op op_add (pe_ix (k_ixL K) (pv 3) (pe_un un_neg pe_int) (fun _ _ => rfl)) (pe_callTy call_int1 (by rfl) B.int (by decide +kernel) (pa_cons (pe_cmp (pc_din (hu_of hr) (pv 4) (pv 2))) pa_nil))) pa_nil)))))
  (pss_one (ps_ret (pv 3))))), ?_⟩
    obtain ⟨la, xs, rfl, hla, hxs⟩ := hd_tup_inv hl
    have xl : xs.length = log.length := all_len hxs
    have ol := ok.len
    refine ⟨hv, rfl, .ref la, rfl, hv, .ref la, ks, cs, log, rfl, hh, vh, hl, ok, fun TD H1 nTD eTD s1 => ?_⟩
    refine ⟨by decide, fun D nD => ⟨.ref TD, .ref D, rfl, ?_⟩⟩
    have s2 : Same H1 (upd H1 D (.lst [.int 0])) := same_new nD
    have nD0 := s1.free nD
    refine ⟨.ref la, rfl, la, xs, rfl, .inr (Same.sqt (s1.trans s2) hla), (xs.length : Int), rfl, by omega, by omega, ?_⟩
    rw [Int.toNat_natCast]
    refine for_it (walk_range (lo := 0) (n := xs.length)) (fun i σ H3 => (∃ y4, σ = [some hv, some (.ref la), some (.ref TD), some (.ref D), y4]) ∧ Same H1 H3 ∧ H3 D = some (.lst ((servedL log i).map V.int)))
      ⟨⟨none, rfl⟩, s2, upd_same⟩ (fun _ _ _ _ _ => trivial) ?_ ?_
    · rintro i z σ H3' H3 hi ⟨⟨y4, rfl⟩, s3, e3⟩ ⟨rfl, rfl⟩
      obtain ⟨l, hl'⟩ := served_last log i
      have hD := sql_of (K := K) e3
      have hlast : atI ((servedL log i).map V.int) (-1) = some (.int ((cnt log i : Nat) : Int)) := by
        rw [hl', List.map_append]
        exact atI_last _ _
      refine ⟨.ref D, rfl, .inl ⟨rfl, _, hD⟩, .ref D, rfl, 1, rfl, D, _, -1, _, rfl, rfl, hD, hlast, ?_⟩
      refine ⟨.int (0 + (i : Int)), rfl, .ref TD, rfl, TD, _, rfl, .inl ⟨_, .inl (0 + (i : Int)), .inl (s3 _ _ eTD), rfl, rfl⟩, .inr ⟨_, rfl, _, _, rfl, rfl, D, _, _, rfl, rfl, e3, small1000 ?_, ⟨_, rfl⟩, ?_, ?_⟩⟩
      · rw [List.length_map, served_len]
        omega
      · intro c o ec
        rw [upd_ne (ne_of_none ec nD)]
        exact s3 _ _ ec
      · rw [upd_same, served_succ, List.map_append, Int.zero_add, taken_some (by omega), cnt_succ]
        cases (toldAt log i).isSome <;> simp
    · rintro σ H3 ⟨⟨y4, rfl⟩, s3, e3⟩
      rw [xl] at e3
      exact ⟨.ref D, rfl, q D H3 nD0 e3 (s1.trans s3)⟩
end
end CB
set_option Elab.async false
set_option linter.all false
set_option maxRecDepth 100000
set_option maxHeartbeats 4000000
namespace CB
open PySem PySem.Spec
open PyProof.Rows L2
open PySem.W (Datum Tup DatumOrd)
/-! ### small data: their text is short -/
structure Sm (n k : Nat) (d : PyData) : Prop where
  ls : d.leavesShort 13 = true
  sh : d.showable = true
  bk : d.bulk ≤ n
  dp : d.depth ≤ k
theorem Sm.mono {n k m j : Nat} {d : PyData} (h : Sm n k d) (h1 : n ≤ m) (h2 : k ≤ j) : Sm m j d := ⟨h.ls, h.sh, Nat.le_trans h.bk h1, Nat.le_trans h.dp h2⟩
theorem sm_none : Sm 0 0 .none := ⟨rfl, rfl, Nat.le_refl _, Nat.le_refl _⟩
theorem sm_bool (b : Bool) : Sm 0 0 (.bool b) := ⟨rfl, rfl, Nat.le_refl _, Nat.le_refl _⟩
theorem sm_int {i : Int} (h0 : 0 ≤ i) (h1 : i ≤ 1000) : Sm 0 0 (.int i) := by
  refine ⟨?_, ?_, Nat.le_refl _, Nat.le_refl _⟩
  · simp only [PyData.leavesShort, decide_eq_true_eq]
    exact PyData.shown_int_le2 (by omega) (by omega)
  · simp only [PyData.showable, decide_eq_true_eq]
    have h2 : i.natAbs < 2 ^ 1920 := by
      have : i.natAbs ≤ 1000 := by omega
      exact Nat.lt_of_le_of_lt this (by decide)
    by_cases h : i.natAbs = 0
    · rw [h]; decide
    · exact (Nat.log2_lt h).mpr h2
theorem sm_str {x : Str} (h : Nm x) : Sm 6 0 (.str x) := by
  refine ⟨?_, rfl, h.2.1, Nat.le_refl _⟩
  simp only [PyData.leavesShort, List.all_eq_true, decide_eq_true_eq]
  intro c hc
  have := letters_lt c (h.2.2 c hc)
  omega
theorem leaves_all {B : Nat} : ∀ {ds : List PyData}, (∀ d ∈ ds, d.leavesShort B = true) → PyData.leavesShortAll B ds = true
  | [], _ => rfl
  | d :: ds, h => by rw [PyData.leavesShortAll, h d (by simp), leaves_all fun e he => h e (by simp [he])]; rfl
theorem show_all : ∀ {ds : List PyData}, (∀ d ∈ ds, d.showable = true) → PyData.showableAll ds = true
  | [], _ => rfl
  | d :: ds, h => by rw [PyData.showableAll, h d (by simp), show_all fun e he => h e (by simp [he])]; rfl
theorem bulk_all {n : Nat} : ∀ {ds : List PyData}, (∀ d ∈ ds, d.bulk ≤ n) → PyData.bulkAll ds ≤ (n + 1) * ds.length
  | [], _ => Nat.zero_le _
  | d :: ds, h => by
    have h1 := h d (by simp)
    have h2 := bulk_all (n := n) fun e he => h e (List.mem_cons_of_mem d he)
    rw [PyData.bulkAll, List.length_cons, Nat.mul_succ]
    omega
theorem depth_all {k : Nat} : ∀ {ds : List PyData}, (∀ d ∈ ds, d.depth ≤ k) → PyData.depthAll ds ≤ k
  | [], _ => Nat.zero_le _
  | d :: ds, h => by
    rw [PyData.depthAll]
    exact Nat.max_le.mpr ⟨h d (by simp), depth_all fun e he => h e (List.mem_cons_of_mem d he)⟩
theorem sm_list {n k m : Nat} {ds : List PyData} (h : ∀ d ∈ ds, Sm n k d) (hm : (n + 1) * ds.length ≤ m) : Sm m (k + 1) (.list ds) := by
  refine ⟨?_, ?_, ?_, ?_⟩
  · simp only [PyData.leavesShort]; exact leaves_all fun d hd => (h d hd).ls
  · simp only [PyData.showable]; exact show_all fun d hd => (h d hd).sh
  · simp only [PyData.bulk]; exact Nat.le_trans (bulk_all fun d hd => (h d hd).bk) hm
  · simp only [PyData.depth]; exact Nat.succ_le_succ (depth_all fun d hd => (h d hd).dp)
theorem sm_tuple {n k m : Nat} {ds : List PyData} (h : ∀ d ∈ ds, Sm n k d) (hm : (n + 1) * ds.length ≤ m) : Sm m (k + 1) (.tuple ds) := by
  refine ⟨?_, ?_, ?_, ?_⟩
  · simp only [PyData.leavesShort]; exact leaves_all fun d hd => (h d hd).ls
  · simp only [PyData.showable]; exact show_all fun d hd => (h d hd).sh
  · simp only [PyData.bulk]; exact Nat.le_trans (bulk_all fun d hd => (h d hd).bk) hm
  · simp only [PyData.depth]; exact Nat.succ_le_succ (depth_all fun d hd => (h d hd).dp)
theorem leaves_kv {B : Nat} : ∀ {es : List (PyData × PyData)}, (∀ p ∈ es, p.1.leavesShort B = true ∧ p.2.leavesShort B = true) → PyData.leavesShortKv B es = true
  | [], _ => rfl
  | (a, b) :: es, h => by
    have := h (a, b) (by simp)
    rw [PyData.leavesShortKv, this.1, this.2, leaves_kv fun e he => h e (by simp [he])]; rfl
theorem show_kv : ∀ {es : List (PyData × PyData)}, (∀ p ∈ es, p.1.showable = true ∧ p.2.showable = true) → PyData.showableKv es = true
  | [], _ => rfl
  | (a, b) :: es, h => by
    have := h (a, b) (by simp)
    rw [PyData.showableKv, this.1, this.2, show_kv fun e he => h e (by simp [he])]; rfl
theorem bulk_kv {n : Nat} : ∀ {es : List (PyData × PyData)}, (∀ p ∈ es, p.1.bulk + p.2.bulk ≤ n) → PyData.bulkKv es ≤ (n + 2) * es.length
  | [], _ => Nat.zero_le _
  | (a, b) :: es, h => by
    have h1 := h (a, b) (by simp)
    have h2 := bulk_kv (n := n) fun e he => h e (List.mem_cons_of_mem (a, b) he)
    rw [PyData.bulkKv, List.length_cons, Nat.mul_succ]
    have h1 : a.bulk + b.bulk ≤ n := h1
    omega
theorem depth_kv {k : Nat} : ∀ {es : List (PyData × PyData)}, (∀ p ∈ es, p.1.depth ≤ k ∧ p.2.depth ≤ k) → PyData.depthKv es ≤ k
  | [], _ => Nat.zero_le _
  | (a, b) :: es, h => by
    have h1 := h (a, b) (by simp)
    have h2 := depth_kv (k := k) fun e he => h e (List.mem_cons_of_mem (a, b) he)
    rw [PyData.depthKv]
    have h1 : a.depth ≤ k ∧ b.depth ≤ k := h1
    omega
theorem sm_dict {n k m : Nat} {es : List (PyData × PyData)} (h : ∀ p ∈ es, Sm n k p.1 ∧ Sm n k p.2) (hm : (n + n + 2) * es.length ≤ m) : Sm m (k + 1) (.dict es) := by
  refine ⟨?_, ?_, ?_, ?_⟩
  · simp only [PyData.leavesShort]; exact leaves_kv fun d hd => ⟨(h d hd).1.ls, (h d hd).2.ls⟩
  · simp only [PyData.showable]; exact show_kv fun d hd => ⟨(h d hd).1.sh, (h d hd).2.sh⟩
  · simp only [PyData.bulk]; exact Nat.le_trans (bulk_kv fun d hd => Nat.add_le_add (h d hd).1.bk (h d hd).2.bk) hm
  · simp only [PyData.depth]; exact Nat.succ_le_succ (depth_kv fun d hd => ⟨(h d hd).1.dp, (h d hd).2.dp⟩)
theorem Sm.fits {n k : Nat} {d : PyData} (h : Sm n k d) (hn : n ≤ 1000000) : d.shown.length ≤ sizeLine :=
  PyData.shown_fits_bulk (B := 13) (by decide) (by decide) h.ls (Nat.le_trans h.bk (Nat.le_trans hn (by decide)))
section
variable {P : Program} {w : World} {K : PySem.W.Frag} {mg : Str → Option Value} {base : Heap} {C p0 p1 p2 p3 : Addr}
/-! ### _law_alike -/
def spAlike (K : PySem.W.Frag) : Sp := fun vs H Q _ => ∃ (v u : V) (d : PyData), vs = [v, u] ∧ Dq K H v d ∧ Dq K H u d ∧ Sm 1000000 50 d ∧ Q (.bl true) H
abbrev s_law_alike : Stmt := topS 36
abbrev p_law_alike : List Str := ["_law_found", "_law_due"]
theorem sc_law_alike : FnScope ["_law_found", "_law_due"] ["_law_found", "_law_due"] (defScope s_law_alike) := ⟨rfl, rfl, rfl, by decide +kernel, rfl, by decide +kernel, by decide +kernel⟩
theorem c_alike (D : Def K mg "_law_alike" s_law_alike p_law_alike) (B : Blt mg) : CalG P w K mg base "_law_alike" p_law_alike 1 (spAlike K) := by
  refine D.calG sc_law_alike (fun vs H Q E h => ?_) (fun f cdv A outer s H vs Q E hg h => ?_)
  · obtain ⟨v, u, d, rfl, _⟩ := h; rfl
  · obtain ⟨v, u, d, rfl, hv, hu, sm, q⟩ := h
    have hr := hg.rm
    refine ⟨_, (pss_one (ps_ret (pe_and (pe_cmpR (k_eqQ K hr.units) (pv 0) (pv 1) (nomark _)) (pe_one (pe_cmpR op_eq (pe_callB (k_reprQ K hr.units hg.gd) (by rfl) B.repr (by decide +kernel) (pa_cons (pv 0) pa_nil)) (pe_callB (k_reprQ K hr.units hg.gd) (by rfl) B.repr (by decide +kernel) (pa_cons (pv 1) pa_nil)) (nomark _)))))), ?_⟩
    refine ⟨v, rfl, u, rfl, d, hv, hu, sm.dp, true, rfl, iteT ?_⟩
    refine ⟨v, rfl, v, d, rfl, hv, sm.sh, sm.fits (Nat.le_refl _), sm.dp, u, rfl, u, d, rfl, hu, sm.sh, sm.fits (Nat.le_refl _), sm.dp, rfl, ?_⟩
    rw [decide_eq_true rfl]
    exact q
end
end CB
set_option Elab.async false
set_option linter.all false
set_option maxRecDepth 100000
set_option maxHeartbeats 4000000
namespace CB
open PySem PySem.Spec
open PyProof.Rows L2
open PySem.W (Datum Tup DatumOrd)
section
variable {P : Program} {w : World} {K : PySem.W.Frag} {mg : Str → Option Value} {base : Heap} {C p0 p1 p2 p3 : Addr}
/-- t is a list of the data ds -/
def LsD {α : Type} [DecidableEq α] [Datum α] (K : PySem.W.Frag) (H : Hp) (t : Addr) (ds : List α) : Prop := ∃ acc, H t = some (.lst acc) ∧ HdAll K H acc ds
theorem LsD.mono {α : Type} [DecidableEq α] [Datum α] {A H : Hp} {t : Addr} {ds : List α} (e : Same A H) (h : LsD K A t ds) : LsD K H t ds := by
  obtain ⟨acc, h1, h2⟩ := h
  exact ⟨acc, e _ _ h1, DpAll.mono e h2⟩
theorem LsD.hd {α : Type} [DecidableEq α] [Datum α] {H : Hp} {t : Addr} {ds : List α} (h : LsD K H t ds) : Hd K H (.ref t) ds := by
  obtain ⟨acc, h1, h2⟩ := h
  exact hd_lst (sql_of h1) h2
theorem lsd_new {α : Type} [DecidableEq α] [Datum α] {H H' : Hp} {S : List Addr} {D : Addr} {acc : List V} {ds : List α} (s : Same H H') (n : H D = none) (hS : ∀ y ∈ S, ∃ o, H y = some o)
    (e : H' D = some (.lst acc)) (h : HdAll K (off H S) acc ds) : LsD K (off H' S) D ds := by
  refine ⟨acc, off_of (fun z => ?_) e, DpAll.mono (off_same s) h⟩
  obtain ⟨o, q⟩ := hS D z
  rw [q] at n; cases n
/-! ### _law_row_done -/
def spRowDone (K : PySem.W.Frag) : Sp := fun vs H Q _ => ∃ (S : List Addr) (hv v : V) (t : Addr) (things : List Th) (r : Row), vs = [hv, .ref t, v] ∧ LsD K (off H S) t things ∧ (∀ y ∈ S, ∃ o, H y = some o) ∧
  Hd K (off H S) v r ∧ things.length ≤ 500 ∧
  ∀ p t' H', Same H H' → H' p = some (.tup [.ref t', oV (step things r).2]) → LsD K (off H' S) t' (step things r).1 → Q (.ref p) H'
abbrev s_law_row_done : Stmt := topS 48
abbrev p_law_row_done : List Str := ["_law_house_here", "_law_there", "_law_row"]
theorem sc_law_row_done : FnScope ["_law_house_here", "_law_there", "_law_row", "_law_kind", "_law_some", "_law_thing"] ["_law_house_here", "_law_there", "_law_row"] (defScope s_law_row_done) := ⟨rfl, rfl, rfl, by decide +kernel, rfl, by decide +kernel, by decide +kernel⟩
theorem c_row_done (D : Def K mg "_law_row_done" s_law_row_done p_law_row_done) : Cal P w K mg base "_law_row_done" p_law_row_done 1 (spRowDone K) := by
  refine D.cal sc_law_row_done (fun vs H Q E h => ?_) (fun f cdv A outer s H vs Q E hr h => ?_)
  · obtain ⟨S, hv, v, t, things, r, rfl, _⟩ := h; rfl
  · obtain ⟨S, hv, v, t, things, r, rfl, hT, hS, hv', l1, q⟩ := h
    refine ⟨_, (pss_cons (ps_if (pt_cmpR op_eq (pe_ix (k_ixT K) (pv 2) pe_int (fun _ _ => rfl)) pe_str (nomark _))
  (pss_one (ps_ret (pe_tup (pa_cons (pe_op op_cat (pv 1) (pe_lst (pa_cons (pe_tup (pa_cons (pe_ix (k_ixT K) (pv 2) pe_int (fun _ _ => rfl)) (pa_cons (pe_ix (k_ixT K) (pv 2) pe_int (fun _ _ => rfl)) pa_nil))) pa_nil))) (pa_cons pe_non pa_nil)))))
  pss_nil)
  (pss_cons (ps_if (pt_cmpR op_eq (pe_ix (k_ixT K) (pv 2) pe_int (fun _ _ => rfl)) pe_str (nomark _))
  (pss_one (ps_ret (pe_tup (pa_cons (pe_lc rfl sc_law_row_done.nd (k_piL K (pv 1)) (blkOk_by (own := [("_law_thing", 5)]) (by kernel_rfl)) (fun _ _ _ _ _ => (pg_name (i := 5) sc_law_row_done.nd rfl (by first | exact .inl rfl | exact .inr rfl))) (fun _ _ _ _ _ => (pts_one (pt_cmpR op_ne (pe_ix (k_ixT K) (pv 5) pe_int (fun _ _ => rfl)) (pe_ix (k_ixT K) (pv 2) pe_int (fun _ _ => rfl)) (nomark _)))) (fun _ _ _ _ _ => (pv 5))) (pa_cons pe_non pa_nil)))))
  pss_nil)
  (pss_cons (ps_for PassesOwn.never rfl (k_piT K (pe_ix (k_ixT K) (pv 2) pe_int (fun _ _ => rfl))) (pg_name (i := 3) sc_law_row_done.nd rfl (by first | exact .inl rfl | exact .inr rfl))
  (pss_cons (ps_set (i := 4) sc_law_row_done.nd rfl (.inr rfl) (pe_lc rfl sc_law_row_done.nd (k_piL K (pv 1)) (blkOk_by (own := [("_law_thing", 5)]) (by kernel_rfl)) (fun _ _ _ _ _ => (pg_name (i := 5) sc_law_row_done.nd rfl (by first | exact .inl rfl | exact .inr rfl))) (fun _ _ _ _ _ => (pts_one (pt_cmpR op_eq (pe_ix (k_ixT K) (pv 5) pe_int (fun _ _ => rfl)) (pv 3) (nomark _)))) (fun _ _ _ _ _ => (pv 5))))
  (pss_one (ps_if (pt_cmpR (k_neX K (List (Str × Str)) hr.units) (pv 4) (pe_lst pa_nil) (nomark _))
  (pss_one (ps_ret (pe_tup (pa_cons (pe_lc rfl sc_law_row_done.nd (k_piL K (pv 1)) (blkOk_by (own := [("_law_thing", 5)]) (by kernel_rfl)) (fun _ _ _ _ _ => (pg_name (i := 5) sc_law_row_done.nd rfl (by first | exact .inl rfl | exact .inr rfl))) (fun _ _ _ _ _ => (pts_one (pt_cmpR (k_neX K (Str × Str) hr.units) (pv 5) (pe_ix (k_ixL K) (pv 4) pe_int (fun _ _ => rfl)) (nomark _)))) (fun _ _ _ _ _ => (pv 5))) (pa_cons (pe_ix (k_ixT K) (pe_ix (k_ixL K) (pv 4) pe_int (fun _ _ => rfl)) pe_int (fun _ _ => rfl)) pa_nil)))))
  pss_nil))))
  (pss_one (ps_ret (pe_tup (pa_cons (pv 1) (pa_cons pe_non pa_nil)))))))), ?_⟩
    obtain ⟨acc, ht, hacc⟩ := hT
    have ht' := (off_some ht).2
    have al := all_len hacc
    obtain ⟨ra, xs, rfl, hra, hx⟩ := row_inv hv'
    have hR := off_sqt hra
    cases r with
    | put n k =>
      cases (show xs = [.str "put", .str n, .str k] from hx)
      refine ⟨.ref ra, rfl, ra, _, 0, .str "put", rfl, rfl, hR, atI_nat (j := 0) rfl, rfl, _, rfl, ifT (decide_eq_true rfl) ?_⟩
      refine ⟨.ref t, rfl, .ref ra, rfl, ra, _, 1, .str n, rfl, rfl, hR, atI_nat (j := 1) rfl, .ref ra, rfl, ra, _, 2, .str k, rfl, rfl, hR, atI_nat (j := 2) rfl, len_ok (by simp), fun p1 np1 => ?_⟩
      refine ⟨len_ok (by simp), fun p2 np2 => ?_⟩
      obtain ⟨n21, np2⟩ := up_none np2
      have t1 := ne_of_none ht' np1
      have t2 := ne_of_none ht' np2
      refine ⟨t, p2, acc, [.ref p1], rfl, rfl, by rw [upd_ne t2, upd_ne t1]; exact ht', upd_same, ?_, fun p3 np3 => ?_⟩
      · have := small1000 (n := acc.length + 1) (by omega)
        simpa using Nat.le_of_lt this
      obtain ⟨n32, np3⟩ := up_none np3
      obtain ⟨n31, np3⟩ := up_none np3
      refine ⟨len_ok (by simp), fun p4 np4 => ?_⟩
      generalize hG : upd (upd (upd (upd H p1 (.tup [.str n, .str k])) p2 (.lst [.ref p1])) p3 (.lst (acc ++ [.ref p1]))) p4 (.tup [.ref p3, .non]) = G
      obtain ⟨n43, np4'⟩ := up_none np4
      obtain ⟨n42, np4'⟩ := up_none np4'
      obtain ⟨n41, np4'⟩ := up_none np4'
      have sG : Same H G := by
        rw [← hG]
        intro c o e
        have h1 := ne_of_none e np1
        have h2 := ne_of_none e np2
        have h3 := ne_of_none e np3
        have h4 := ne_of_none e np4'
        simp [upd, h1, h2, h3, h4, e]
      have g1 : G p1 = some (.tup [.str n, .str k]) := by rw [← hG]; simp [upd, n41.symm, n31.symm, n21.symm]
      have g3 : G p3 = some (.lst (acc ++ [.ref p1])) := by rw [← hG]; simp [upd, n43.symm]
      have g4 : G p4 = some (.tup [.ref p3, .non]) := by rw [← hG]; exact upd_same
      have s1 : p1 ∉ S := fun z => by
        obtain ⟨o, e⟩ := hS p1 z
        rw [e] at np1; cases np1
      have s3 : p3 ∉ S := fun z => by
        obtain ⟨o, e⟩ := hS p3 z
        rw [e] at np3; cases np3
      exact q p4 p3 G sG g4 ⟨_, off_of s3 g3, all_app (DpAll.mono (off_same sG) hacc) (all_one (hd_pair (sqt_of (off_of s1 g1)) (hd_str n) (hd_str k)))⟩
    | drop n =>
      cases (show xs = [.str "drop", .str n] from hx)
      refine ⟨.ref ra, rfl, ra, _, 0, .str "drop", rfl, rfl, hR, atI_nat (j := 0) rfl, rfl, _, rfl, ifF s_pd ?_⟩
      refine ⟨.ref ra, rfl, ra, _, 0, .str "drop", rfl, rfl, hR, atI_nat (j := 0) rfl, rfl, _, rfl, ifT (decide_eq_true rfl) ?_⟩
      refine ⟨.ref t, rfl, t, rfl, ⟨_, sql_of ht'⟩, fun D nD => ?_⟩
      refine lc_it (walk_list (xs := acc)) (fun i H1 => Same H H1 ∧ ∃ bs, H1 D = some (.lst bs) ∧ HdAll K (off H S) bs ((things.take i).filter fun t => !decide (t.1 = n)))
        ⟨same_new nD, [], upd_same, .nil⟩ (fun i H1 _ u => sql_of (u.1 _ _ ht')) ?_ ?_
      · rintro i z H1' H1 hi ⟨s1, bs, e, hb⟩ ⟨rfl, hz⟩
        obtain ⟨th, hth, hd⟩ := all_get hacc hz
        obtain ⟨ta, x1, x2, rfl, hta, g1, g2⟩ := hd_pair_inv hd
        cases hd_str_inv g1
        refine ⟨rfl, .ref ta, rfl, ta, _, 0, .str th.1, rfl, rfl, off_sqt (Same.sqt (off_same s1) hta), atI_nat (j := 0) rfl, .ref ra, rfl, ra, _, 1, .str n, rfl, rfl, Same.sqt s1 hR, atI_nat (j := 1) rfl, rfl, _, rfl, ?_⟩
        have hlen : bs.length < sizeLine := small1000 (by
          have h1 := all_len hb
          have h2 := List.length_filter_le (fun t : Th => !decide (t.1 = n)) (things.take i)
          rw [List.length_take] at h2
          omega)
        by_cases hm : th.1 = n
        · refine ifF (by simp [hm]) ⟨s1, bs, e, ?_⟩
          rw [List.take_add_one, hth]
          simpa [hm] using hb
        · refine ifT (by simp [hm]) ⟨.ref ta, rfl, bs, e, hlen, fun c o ec => ?_, _, upd_same, ?_⟩
          · rw [upd_ne (ne_of_none ec nD)]; exact s1 _ _ ec
          · rw [List.take_add_one, hth]
            have : ((things.take i ++ (some th).toList).filter fun t => !decide (t.1 = n)) = ((things.take i).filter fun t => !decide (t.1 = n)) ++ [th] := by simp [hm]
            rw [this]
            exact all_app hb (all_one hd)
      · rintro H1 ⟨s1, bs, e, hb⟩
        rw [List.take_of_length_le (by omega)] at hb
        refine ⟨len_ok (by simp), fun p np => ?_⟩
        exact q p D _ (s1.trans (same_new np)) upd_same (lsd_new (s1.trans (same_new np)) nD hS (by rw [upd_ne (ne_of_none e np)]; exact e) hb)
    | call c =>
      obtain ⟨u, e, hu⟩ := (show ∃ u, xs = [.str "call", u] ∧ Hd K (off H S) u (Tup.mk c) from hx)
      cases e
      refine ⟨.ref ra, rfl, ra, _, 0, .str "call", rfl, rfl, hR, atI_nat (j := 0) rfl, rfl, _, rfl, ifF s_cp ?_⟩
      refine ⟨.ref ra, rfl, ra, _, 0, .str "call", rfl, rfl, hR, atI_nat (j := 0) rfl, rfl, _, rfl, ifF s_cd ?_⟩
      obtain ⟨ua, rfl, hua⟩ := hd_strT hu
      have hU : SqT K H ua (c.map V.str) := off_sqt hua
      refine ⟨.ref ra, rfl, ra, _, 1, .ref ua, rfl, rfl, hR, atI_nat (j := 1) rfl, ua, rfl, ⟨_, hU⟩, ?_⟩
      refine for_it (walk_tup (xs := c.map V.str)) (fun i σ H1 => (∃ y3 y4 y5, σ = [some hv, some (.ref t), some (.ref ra), y3, y4, y5]) ∧ Same H H1 ∧ firstOf (c.take i) things = none) ⟨⟨none, none, none, rfl⟩, Same.refl _, rfl⟩ ?_ ?_ ?_
      · rintro i σ H1 _ ⟨_, s1, _⟩; exact Same.sqt s1 hU
      · rintro i z σ H1' H1 hi ⟨⟨y3, y4, y5, rfl⟩, s1, hf⟩ ⟨rfl, hz⟩
        obtain ⟨k, hk, rfl⟩ := map_get hz
        have ht1 := s1 _ _ ht'
        refine ⟨.ref t, rfl, t, rfl, ⟨_, sql_of ht1⟩, fun D nD => ?_⟩
        have nD0 := s1.free nD
        refine lc_it (walk_list (xs := acc)) (fun j H2 => Same H1 H2 ∧ ∃ bs, H2 D = some (.lst bs) ∧ HdAll K (off H S) bs ((things.take j).filter fun t => decide (t.2 = k)))
          ⟨same_new nD, [], upd_same, .nil⟩ (fun j H2 _ u => sql_of (u.1 _ _ ht1)) ?_ ?_
        · rintro j z H2' H2 hj ⟨s2, bs, e, hb⟩ ⟨rfl, hz⟩
          obtain ⟨th, hth, hd⟩ := all_get hacc hz
          obtain ⟨ta, x1, x2, rfl, hta, g1, g2⟩ := hd_pair_inv hd
          cases hd_str_inv g2
          refine ⟨rfl, .ref ta, rfl, ta, _, 1, .str th.2, rfl, rfl, off_sqt (Same.sqt (off_same (s1.trans s2)) hta), atI_nat (j := 1) rfl, .str k, rfl, rfl, _, rfl, ?_⟩
          have hlen : bs.length < sizeLine := small1000 (by
            have h1 := all_len hb
            have h2 := List.length_filter_le (fun t : Th => decide (t.2 = k)) (things.take j)
            rw [List.length_take] at h2
            omega)
          by_cases hm : th.2 = k
          · refine ifT (by simp [hm]) ⟨.ref ta, rfl, bs, e, hlen, fun c o ec => ?_, _, upd_same, ?_⟩
            · rw [upd_ne (ne_of_none ec nD)]; exact s2 _ _ ec
            · rw [List.take_add_one, hth]
              have : ((things.take j ++ (some th).toList).filter fun t => decide (t.2 = k)) = ((things.take j).filter fun t => decide (t.2 = k)) ++ [th] := by simp [hm]
              rw [this]
              exact all_app hb (all_one hd)
          · refine ifF (by simp [hm]) ⟨s2, bs, e, ?_⟩
            rw [List.take_add_one, hth]
            simpa [hm] using hb
        · rintro H2 ⟨s2, bs, e, hb⟩
          rw [List.take_of_length_le (by omega)] at hb
          have s12 := s1.trans s2
          refine ⟨.ref D, rfl, by decide, fun L nL => ?_⟩
          have sL : Same H2 (upd H2 L (.lst [])) := same_new nL
          have eD : (upd H2 L (.lst [])) D = some (.lst bs) := sL _ _ e
          have hbF : HdAll K (upd H2 L (.lst [])) bs (things.filter fun t => decide (t.2 = k)) := DpAll.mono (off_le) (DpAll.mono (off_same (s12.trans sL)) hb)
          refine ⟨_, [], hd_lst (sql_of eD) hbF, hd_lst (sql_of upd_same) .nil, _, rfl, ?_⟩
          cases hfl : things.filter (fun t => decide (t.2 = k)) with
          | nil =>
            refine ifF (by simp) ⟨⟨_, _, _, rfl⟩, s12.trans sL, firstOf_snoc hf hk ?_⟩
            rw [← List.head?_filter, hfl]; rfl
          | cons t0 tr =>
            have fo := firstOf_at (ts := things) hf hk (t := t0) (by rw [← List.head?_filter, hfl]; rfl)
            refine ifT (by simp) ?_
            rw [hfl] at hb hbF
            obtain ⟨x0, hx0, hd0⟩ := all_at (i := 0) hb rfl
            obtain ⟨ta0, y1, y2, rfl, hta0, g10, g20⟩ := hd_pair_inv hd0
            cases hd_str_inv g10
            generalize hG : upd H2 L (.lst []) = G at sL eD hbF
            have sG : Same H G := s12.trans sL
            have htG := sG _ _ ht'
            refine ⟨.ref t, rfl, t, rfl, ⟨_, sql_of htG⟩, fun D2 nD2 => ?_⟩
            have nD20 := sG.free nD2
            refine lc_it (walk_list (xs := acc)) (fun j H3 => Same G H3 ∧ ∃ es, H3 D2 = some (.lst es) ∧ HdAll K (off H S) es ((things.take j).filter fun u => !decide (u = t0)))
              ⟨same_new nD2, [], upd_same, .nil⟩ (fun j H3 _ u => sql_of (u.1 _ _ htG)) ?_ ?_
            · rintro j z H3' H3 hj ⟨s3, es, e3, hb3⟩ ⟨rfl, hz⟩
              obtain ⟨th, hth, hd⟩ := all_get hacc hz
              have sH3 := sG.trans s3
              refine ⟨rfl, z, rfl, .ref D, rfl, D, bs, 0, .ref ta0, rfl, rfl, sql_of (s3 _ _ eD), atI_nat (j := 0) hx0, th, t0, Dp.mono off_le (Dp.mono (off_same sH3) hd), Dp.mono off_le (Dp.mono (off_same sH3) hd0), _, rfl, ?_⟩
              have hlen : es.length < sizeLine := small1000 (by
                have h1 := all_len hb3
                have h2 := List.length_filter_le (fun u : Th => !decide (u = t0)) (things.take j)
                rw [List.length_take] at h2
                omega)
              by_cases hm : th = t0
              · refine ifF (by simp [hm]) ⟨s3, es, e3, ?_⟩
                rw [List.take_add_one, hth]
                simpa [hm] using hb3
              · refine ifT (by simp [hm]) ⟨z, rfl, es, e3, hlen, fun c o ec => ?_, _, upd_same, ?_⟩
                · rw [upd_ne (ne_of_none ec nD2)]; exact s3 _ _ ec
                · rw [List.take_add_one, hth]
                  have : ((things.take j ++ (some th).toList).filter fun u => !decide (u = t0)) = ((things.take j).filter fun u => !decide (u = t0)) ++ [th] := by simp [hm]
                  rw [this]
                  exact all_app hb3 (all_one hd)
            · rintro H3 ⟨s3, es, e3, hb3⟩
              rw [List.take_of_length_le (by omega)] at hb3
              have sH3 := sG.trans s3
              refine ⟨.ref D, rfl, D, bs, 0, .ref ta0, rfl, rfl, sql_of (s3 _ _ eD), atI_nat (j := 0) hx0, ta0, _, 0, .str t0.1, rfl, rfl, off_sqt (Same.sqt (off_same sH3) hta0), atI_nat (j := 0) rfl, len_ok (by simp), fun p np => ?_⟩
              rw [step_some fo] at q
              exact q p D2 _ (sH3.trans (same_new np)) upd_same (lsd_new (sH3.trans (same_new np)) nD20 hS (by rw [upd_ne (ne_of_none e3 np)]; exact e3) hb3)
      · rintro σ H1 ⟨⟨y3, y4, y5, rfl⟩, s1, hf⟩
        rw [List.length_map, List.take_length] at hf
        rw [step_none hf] at q
        refine ⟨.ref t, rfl, len_ok (by simp), fun p np => ?_⟩
        exact q p t _ (s1.trans (same_new np)) upd_same (LsD.mono (off_same (s1.trans (same_new np))) ⟨acc, ht, hacc⟩)
end
end CB
set_option Elab.async false
set_option linter.all false
set_option maxRecDepth 100000
set_option maxHeartbeats 4000000
namespace CB
open PySem PySem.Spec
open PyProof.Rows L2
open PySem.W (Datum Tup DatumOrd)
section
variable {P : Program} {w : World} {K : PySem.W.Frag} {mg : Str → Option Value} {base : Heap} {C p0 p1 p2 p3 : Addr}
/-! ### _law_played -/
/-- the states' lists and the told ones -/
structure Pl (K : PySem.W.Frag) (H : Hp) (S0 : List Addr) (s t : Addr) (as : List Addr) (log : List Row) (i : Nat) : Prop where
  es : H s = some (.lst (as.map V.ref))
  len : as.length = i + 1
  st : ∀ (j : Nat) a, as[j]? = some a → LsD K (off H (s :: t :: S0)) a (runT (log.take j))
  et : H t = some (.dK (toldK (toldL log i)))
def spPlayed (K : PySem.W.Frag) : Sp := fun vs H Q _ => ∃ (hv lv : V) (ks : List Str) (cs : List (List Str)) (log : List Row) (S0 : List Addr), vs = [hv, lv] ∧ Hd K (off H S0) lv (Tup.mk log) ∧ (∀ y ∈ S0, ∃ o, H y = some o) ∧ LogOk ks cs log ∧
  ∀ p s t as H', H s = none → H t = none → s ≠ t → Pl K H' S0 s t as log log.length → H' p = some (.tup [.ref s, .ref t]) → Same H H' → Q (.ref p) H'
abbrev s_law_played : Stmt := topS 49
abbrev p_law_played : List Str := ["_law_house_here", "_law_log_here"]
theorem sc_law_played : FnScope ["_law_house_here", "_law_log_here", "_law_states", "_law_told", "_law_at", "_law_row", "_law_there", "_law_name"] ["_law_house_here", "_law_log_here"] (defScope s_law_played) := ⟨rfl, rfl, rfl, by decide +kernel, rfl, by decide +kernel, by decide +kernel⟩
theorem c_played (D : Def K mg "_law_played" s_law_played p_law_played) (B : Blt mg) (C_law_row_done : Cal P w K mg base "_law_row_done" p_law_row_done 1 (spRowDone K)) :
    Cal P w K mg base "_law_played" p_law_played 2 (spPlayed K) := by
  refine D.cal sc_law_played (fun vs H Q E h => ?_) (fun f cdv A outer s H vs Q E hr h => ?_)
  · obtain ⟨hv, lv, ks, cs, log, S0, rfl, _⟩ := h; rfl
  · obtain ⟨hv, lv, ks, cs, log, S0, rfl, hl, hS0, ok, q⟩ := h
    refine ⟨_, (pss_cons (ps_par (i := 2) (j := 3) rfl sc_law_played.nd rfl rfl (by decide) rfl rfl (pa_cons (pe_lst (pa_cons (pe_lst pa_nil) pa_nil)) (pa_cons pe_dnewK pa_nil)) rfl)
  (pss_cons (ps_for PassesOwn.never rfl (k_enumT K B.enumerate (pa_cons (pv 1) pa_nil)) (k_tup K (n := 2) rfl (pgs_cons (pg_name (i := 4) sc_law_played.nd rfl (by first | exact .inl rfl | exact .inr rfl)) (pgs_cons (pg_name (i := 5) sc_law_played.nd rfl (by first | exact .inl rfl | exact .inr rfl)) pgs_nil)))
  (pss_cons (ps_asg (pe_cal C_law_row_done hr (pa_cons (pv 0) (pa_cons (pe_ix (k_ixL K) (pv 2) (pe_un un_neg pe_int) (fun _ _ => rfl)) (pa_cons (pv 5) pa_nil)))) (k_tup K (n := 2) rfl (pgs_cons (pg_name (i := 6) sc_law_played.nd rfl (by first | exact .inl rfl | exact .inr rfl)) (pgs_cons (pg_name (i := 7) sc_law_played.nd rfl (by first | exact .inl rfl | exact .inr rfl)) pgs_nil))))
  (pss_cons (ps_expr (k_bm K PySem.F.plainAttrs_list PySem.F.slot_list_append PySem.F.type_list_append mt_append (pv 2) (pa_cons (pv 6) pa_nil)))
  (pss_one (ps_if (pt_cmpR op_eq (pe_ix (k_ixT K) (pv 5) pe_int (fun _ _ => rfl)) pe_str (nomark _))
  (pss_one (ps_dput (hu_of hr) (pv 3) (pv 4) (pv 7) rfl))
  pss_nil)))))
  (pss_one (ps_ret (pe_tup (pa_cons (pv 2) (pa_cons (pv 3) pa_nil))))))), ?_⟩
    obtain ⟨la, xs, rfl, hlaO, hxsO⟩ := hd_tup_inv hl
    have hla : SqT K H la xs := off_sqt hlaO
    have hxs : HdAll K H xs log := DpAll.mono off_le hxsO
    have notS : ∀ {y : Addr}, H y = none → y ∉ S0 := fun n z => by
      obtain ⟨o, e⟩ := hS0 _ z
      rw [e] at n; cases n
    have xl : xs.length = log.length := all_len hxs
    have ol := ok.len
    refine ⟨by decide, fun a0 n0 => ⟨len_ok (by simp), fun s ns t nt => ⟨.ref s, .ref t, rfl, ?_⟩⟩⟩
    obtain ⟨s0, ns0⟩ := up_none ns
    obtain ⟨ts, nt0⟩ := up_none nt
    obtain ⟨t0, nt0⟩ := up_none nt0
    have st : s ≠ t := ts.symm
    generalize hG : upd (upd (upd H a0 (.lst [])) s (.lst [.ref a0])) t (.dK []) = G
    have sG : Same H G := by
      rw [← hG]
      intro c o e
      have h1 := ne_of_none e n0
      have h2 := ne_of_none e ns0
      have h3 := ne_of_none e nt0
      simp [upd, h1, h2, h3, e]
    have g0 : G a0 = some (.lst []) := by rw [← hG]; simp [upd, s0.symm, t0.symm]
    have gs : G s = some (.lst [.ref a0]) := by rw [← hG]; simp [upd, st]
    have gt : G t = some (.dK []) := by rw [← hG]; exact upd_same
    have hlaG : SqT K G la xs := Same.sqt sG hla
    refine ⟨.ref la, rfl, la, xs, rfl, hlaG, ?_⟩
    refine for_it (walk_enumT (xs := xs)) (fun i σ H2 => (∃ y4 y5 y6 y7, σ = [some hv, some (.ref la), some (.ref s), some (.ref t), y4, y5, y6, y7]) ∧ Same H H2 ∧ ∃ as, Pl K H2 S0 s t as log i)
      ⟨⟨none, none, none, none, rfl⟩, sG, [a0], gs, rfl, ?_, gt⟩ ?_ ?_ ?_
    · intro j a e
      cases j with
      | zero =>
        simp at e
        subst e
        exact ⟨[], off_of (by simp [s0.symm, t0.symm, notS n0]) g0, .nil⟩
      | succ j => simp at e
    · rintro i σ H2 _ ⟨_, s2, _⟩; exact Same.sqt s2 hla
    · rintro i z σ H2 H3 hi ⟨⟨y4, y5, y6, y7, rfl⟩, s2, as, pl⟩ ⟨T, u1, u2, rfl, nT, rfl, e1, e2⟩
      cases (Option.some.inj e1)
      obtain ⟨r, hr', hdO⟩ := all_get hxsO e2
      have hd : Hd K H u2 r := Dp.mono off_le hdO
      have s3 : Same H2 (upd H2 T (.tup [.int (i : Nat), u2])) := same_new nT
      refine ⟨T, _, rfl, sqt_new, rfl, .int (i : Nat), [u2], rfl, u2, [], rfl, rfl, ?_⟩
      generalize upd H2 T (.tup [.int (i : Nat), u2]) = H3 at s3
      have asl := pl.len
      obtain ⟨a, ha⟩ : ∃ a, as[i]? = some a := ⟨as[i]'(by omega), List.getElem?_eq_getElem (by omega)⟩
      have ela : as = as.take i ++ [a] := by
        have h1 : as.take (i + 1) = as.take i ++ [a] := by rw [List.take_add_one, ha]; rfl
        rw [← h1, List.take_of_length_le (by omega)]
      have hs3 := s3 _ _ pl.es
      have ht3 := s3 _ _ pl.et
      have hlast : atI (as.map V.ref) (-1) = some (.ref a) := by
        rw [ela, List.map_append]
        exact atI_last _ _
      refine ⟨hv, rfl, .ref s, rfl, 1, rfl, s, _, -1, .ref a, rfl, rfl, sql_of hs3, hlast, u2, rfl, ?_⟩
      have rl := run_len (log.take i)
      rw [List.length_take] at rl
      refine ⟨s :: t :: S0, hv, u2, a, runT (log.take i), r, rfl, (pl.st i a ha).mono (off_same s3), ?_, Dp.mono (fun c o e => ?_) hdO, by omega, fun p t' H4 s4 e4 hT => ?_⟩
      · intro y hy
        simp only [List.mem_cons, List.not_mem_nil, or_false] at hy
        rcases hy with rfl | rfl | hy
        · exact ⟨_, hs3⟩
        · exact ⟨_, ht3⟩
        · obtain ⟨o, e⟩ := hS0 y hy
          exact ⟨o, s3 _ _ (s2 _ _ e)⟩
      · obtain ⟨m1, m2⟩ := off_some e
        refine off_of ?_ (s3 _ _ (s2 _ _ m2))
        simp only [List.mem_cons, not_or]
        exact ⟨ne_of_none m2 ns0, ne_of_none m2 nt0, m1⟩
      · refine ⟨p, _, rfl, sqt_of e4, rfl, .ref t', [_], rfl, _, [], rfl, rfl, ?_⟩
        have hs4 := s4 _ _ hs3
        have ht4 := s4 _ _ ht3
        refine ⟨.ref s, rfl, .inl ⟨rfl, _, sql_of hs4⟩, .ref t', rfl, s, _, _, rfl, rfl, hs4, small1000 (by rw [List.length_map]; omega), ?_⟩
        generalize hG5 : upd H4 s (.lst (as.map V.ref ++ [.ref t'])) = G5
        have s5 : Same (off H4 (s :: t :: S0)) (off G5 (s :: t :: S0)) := by rw [← hG5]; exact off_wr (by simp)
        have e5 : G5 s = some (.lst ((as ++ [t']).map V.ref)) := by rw [← hG5, upd_same, List.map_append]; rfl
        have t5 : G5 t = some (.dK (toldK (toldL log i))) := by rw [← hG5, upd_ne st.symm]; exact ht4
        have k5 : Same H G5 := by
          intro c o ec
          rw [← hG5, upd_ne (ne_of_none ec ns0)]
          exact s4 _ _ (s3 _ _ (s2 _ _ ec))
        have pst : ∀ (j : Nat) b, (as ++ [t'])[j]? = some b → LsD K (off G5 (s :: t :: S0)) b (runT (log.take j)) := by
          intro j b hb
          by_cases hj : j < as.length
          · rw [List.getElem?_append_left hj] at hb
            exact (pl.st j b hb).mono ((off_same (s3.trans s4)).trans s5)
          · rw [List.getElem?_append_right (by omega)] at hb
            have hj2 : j = i + 1 := by
              have := (List.getElem?_eq_some_iff.mp hb).1
              simp at this
              omega
            subst hj2
            have : t' = b := by simpa [asl] using hb
            subst this
            rw [runT_take hr']
            exact hT.mono s5
        have hla5 := k5
        obtain ⟨ra, ys, rfl, hra, hx⟩ := row_inv hd
        have hR := Same.sqt k5 hra
        cases r with
        | put n k =>
          cases (show ys = [.str "put", .str n, .str k] from hx)
          refine ⟨.ref ra, rfl, ra, _, 0, .str "put", rfl, rfl, hR, atI_nat (j := 0) rfl, rfl, _, rfl, ifF s_pc ?_⟩
          exact ⟨⟨_, _, _, _, rfl⟩, k5, _, e5, by simp [asl], pst, by rw [told_other hr' rfl]; exact t5⟩
        | drop n =>
          cases (show ys = [.str "drop", .str n] from hx)
          refine ⟨.ref ra, rfl, ra, _, 0, .str "drop", rfl, rfl, hR, atI_nat (j := 0) rfl, rfl, _, rfl, ifF s_dc ?_⟩
          exact ⟨⟨_, _, _, _, rfl⟩, k5, _, e5, by simp [asl], pst, by rw [told_other hr' rfl]; exact t5⟩
        | call c =>
          obtain ⟨u, e, hu⟩ := (show ∃ u, ys = [.str "call", u] ∧ Hd K H u (Tup.mk c) from hx)
          cases e
          refine ⟨.ref ra, rfl, ra, _, 0, .str "call", rfl, rfl, hR, atI_nat (j := 0) rfl, rfl, _, rfl, ifT (decide_eq_true rfl) ?_⟩
          refine ⟨_, rfl, .ref t, rfl, .int (i : Nat), rfl, t, _, rfl, DPut.k (k := .inl (i : Int)) t5 (small1000 ?_), ⟨_, _, _, _, rfl⟩, ?_, as ++ [t'], ?_, by simp [asl], fun j b hb => (pst j b hb).mono (off_wr (by simp)), ?_⟩
          · unfold toldK
            rw [List.length_map]
            have := toldL_len log i
            omega
          · intro c o ec
            rw [upd_ne (ne_of_none ec nt0)]
            exact k5 _ _ ec
          · rw [upd_ne st]; exact e5
          · rw [upd_same, putK_new _ (told_new log i), told_call hr']
    · rintro σ H2 ⟨⟨y4, y5, y6, y7, rfl⟩, s2, as, pl⟩
      rw [xl] at pl
      refine ⟨.ref s, rfl, .ref t, rfl, len_ok (by simp), fun p np => ?_⟩
      refine q p s t as _ ns0 nt0 st ⟨?_, pl.len, fun j b hb => (pl.st j b hb).mono (off_new np), ?_⟩ upd_same (s2.trans (same_new np))
      · rw [upd_ne (ne_of_none pl.es np)]; exact pl.es
      · rw [upd_ne (ne_of_none pl.et np)]; exact pl.et
/-! ### _law_log_pairs -/
/-- the puts ahead of the call c at i that it accepts -/
def isPutIn (log : List Row) (c : List Str) (k : Nat) : Bool := match log[k]? with
  | some (.put _ kd) => decide (kd ∈ c)
  | _ => false
def pairsAt (log : List Row) (i : Nat) : List (Int × Int) := match log[i]? with
  | some (.call c) => ((List.range i).filter (isPutIn log c)).map fun k : Nat => ((i : Int), (k : Int))
  | _ => []
def pairsL (log : List Row) (n : Nat) : List (Int × Int) := (List.range n).flatMap (pairsAt log)
theorem pairs_succ (log : List Row) (n : Nat) : pairsL log (n + 1) = pairsL log n ++ pairsAt log n := by
  unfold pairsL
  rw [List.range_succ, List.flatMap_append]
  simp
theorem pairsAt_len (log : List Row) (i : Nat) : (pairsAt log i).length ≤ i := by
  unfold pairsAt
  split
  · rw [List.length_map]
    exact Nat.le_trans (List.length_filter_le _ _) (by rw [List.length_range]; exact Nat.le_refl _)
  · exact Nat.zero_le _
theorem pairs_len (log : List Row) : ∀ n, n ≤ 200 → (pairsL log n).length ≤ 200 * n
  | 0, _ => Nat.zero_le _
  | n + 1, h => by
    rw [pairs_succ, List.length_append]
    have h1 := pairs_len log n (by omega)
    have h2 := pairsAt_len log n
    omega
def spPairs (K : PySem.W.Frag) : Sp := fun vs H Q _ => ∃ (lv : V) (log : List Row), vs = [lv] ∧ Hd K H lv (Tup.mk log) ∧ log.length ≤ 200 ∧
  ∀ p H', H p = none → Ls K [] H' p (pairsL log log.length) → Same H H' → Q (.ref p) H'
abbrev s_law_log_pairs : Stmt := topS 50
abbrev p_law_log_pairs : List Str := ["_law_log_here"]
theorem sc_law_log_pairs : FnScope ["_law_log_here", "_law_found", "_law_at", "_law_row", "_law_k"] ["_law_log_here"] (defScope s_law_log_pairs) := ⟨rfl, rfl, rfl, by decide +kernel, rfl, by decide +kernel, by decide +kernel⟩
theorem c_log_pairs (D : Def K mg "_law_log_pairs" s_law_log_pairs p_law_log_pairs) (B : Blt mg) : Cal P w K mg base "_law_log_pairs" p_law_log_pairs 1 (spPairs K) := by
  refine D.cal sc_law_log_pairs (fun vs H Q E h => ?_) (fun f cdv A outer s H vs Q E hr h => ?_)
  · obtain ⟨lv, log, rfl, _⟩ := h; rfl
  · obtain ⟨lv, log, rfl, hl, ol, q⟩ := h
    refine ⟨_, (pss_cons (ps_set (i := 1) sc_law_log_pairs.nd rfl (.inl rfl) (pe_lst pa_nil))
  (pss_cons (ps_for PassesOwn.never rfl (k_enumT K B.enumerate (pa_cons (pv 0) pa_nil)) (k_tup K (n := 2) rfl (pgs_cons (pg_name (i := 2) sc_law_log_pairs.nd rfl (by first | exact .inl rfl | exact .inr rfl)) (pgs_cons (pg_name (i := 3) sc_law_log_pairs.nd rfl (by first | exact .inl rfl | exact .inr rfl)) pgs_nil)))
  (pss_one (ps_if (pt_cmpR op_eq (pe_ix (k_ixT K) (pv 3) pe_int (fun _ _ => rfl)) pe_str (nomark _))
  (pss_one (ps_expr (k_bm K PySem.F.plainAttrs_list PySem.F.slot_list_extend PySem.F.type_list_extend mt_extend (pv 1) (pa_cons (pe_lc rfl sc_law_log_pairs.nd (pi_range1 (by rfl) B.range (pa_cons (pv 2) pa_nil)) (blkOk_by (own := [("_law_k", 4)]) (by kernel_rfl)) (fun _ _ _ _ _ => (pg_name (i := 4) sc_law_log_pairs.nd rfl (by first | exact .inl rfl | exact .inr rfl))) (fun _ _ _ _ _ => (pts_one (PW.pt (pw_and (pt_cmpR op_eq (pe_ix (k_ixT K) (pe_ix (k_ixT K) (pv 0) (pv 4) (fun _ _ => rfl)) pe_int (fun _ _ => rfl)) pe_str (nomark _)) (pw_and1 (pt_cmpR (k_inX K Str hr.units) (pe_ix (k_ixT K) (pe_ix (k_ixT K) (pv 0) (pv 4) (fun _ _ => rfl)) pe_int (fun _ _ => rfl)) (pe_ix (k_ixT K) (pv 3) pe_int (fun _ _ => rfl)) (by with_unfolding_all rfl))))))) (fun _ _ _ _ _ => (pe_tup (pa_cons (pv 2) (pa_cons (pv 4) pa_nil))))) pa_nil))))
  pss_nil)))
  (pss_one (ps_ret (pv 1))))), ?_⟩
    obtain ⟨la, xs, rfl, hla, hxs⟩ := hd_tup_inv hl
    have xl : xs.length = log.length := all_len hxs
    refine ⟨by decide, fun D nD => ?_⟩
    have hla0 : SqT K (upd H D (.lst [])) la xs := Same.sqt (same_new nD) hla
    refine ⟨.ref la, rfl, la, xs, rfl, hla0, ?_⟩
    refine for_it (walk_enumT (xs := xs)) (fun i σ H2 => (∃ y2 y3 y4, σ = [some (.ref la), some (.ref D), y2, y3, y4]) ∧ Same H H2 ∧ Ls K [] H2 D (pairsL log i)) ⟨⟨none, none, none, rfl⟩, same_new nD, Ls.new rfl⟩ ?_ ?_ ?_
    · rintro i σ H2 _ ⟨_, s2, _⟩; exact Same.sqt s2 hla
    · rintro i z σ H2 H3 hi ⟨⟨y2, y3, y4, rfl⟩, s2, acc, e, ha⟩ ⟨T, u1, u2, rfl, nT, rfl, e1, e2⟩
      cases (Option.some.inj e1)
      obtain ⟨r, hr', hd⟩ := all_get hxs e2
      have s3 : Same H2 (upd H2 T (.tup [.int (i : Nat), u2])) := same_new nT
      refine ⟨T, _, rfl, sqt_new, rfl, .int (i : Nat), [u2], rfl, u2, [], rfl, rfl, ?_⟩
      generalize upd H2 T (.tup [.int (i : Nat), u2]) = H3 at s3
      have e3 := s3 _ _ e
      have ha3 : HdAll K (off H3 [D]) acc (pairsL log i) := DpAll.mono (off_same s3) ha
      obtain ⟨ra, ys, rfl, hra, hx⟩ := row_inv hd
      have s23 := s2.trans s3
      have hR := Same.sqt s23 hra
      have same_case : ∀ (r : Row), log[i]? = some r → r.isCall = false → pairsL log (i + 1) = pairsL log i := by
        intro r h1 h2
        rw [pairs_succ]
        unfold pairsAt
        rw [h1]
        cases r with
        | call c => cases h2
        | put n k => simp
        | drop n => simp
      cases r with
      | put n k =>
        cases (show ys = [.str "put", .str n, .str k] from hx)
        refine ⟨.ref ra, rfl, ra, _, 0, .str "put", rfl, rfl, hR, atI_nat (j := 0) rfl, rfl, _, rfl, ifF s_pc ?_⟩
        exact ⟨⟨_, _, _, rfl⟩, s23, acc, e3, by rw [same_case _ hr' rfl]; exact ha3⟩
      | drop n =>
        cases (show ys = [.str "drop", .str n] from hx)
        refine ⟨.ref ra, rfl, ra, _, 0, .str "drop", rfl, rfl, hR, atI_nat (j := 0) rfl, rfl, _, rfl, ifF s_dc ?_⟩
        exact ⟨⟨_, _, _, rfl⟩, s23, acc, e3, by rw [same_case _ hr' rfl]; exact ha3⟩
      | call c =>
        obtain ⟨u, e0, hu⟩ := (show ∃ u, ys = [.str "call", u] ∧ Hd K H u (Tup.mk c) from hx)
        cases e0
        refine ⟨.ref ra, rfl, ra, _, 0, .str "call", rfl, rfl, hR, atI_nat (j := 0) rfl, rfl, _, rfl, ifT (decide_eq_true rfl) ?_⟩
        refine ⟨.ref D, rfl, .inl ⟨rfl, _, sql_of e3⟩, ?_⟩
        refine ⟨.int (i : Nat), rfl, (i : Int), rfl, by omega, by omega, fun L nL => ?_⟩
        have nLD : D ≠ L := ne_of_none e3 nL
        rw [Int.toNat_natCast]
        refine lc_it (walk_range (lo := 0) (n := i)) (fun j H4 => Same H3 H4 ∧ ∃ bs, H4 L = some (.lst bs) ∧ HdAll K (off H4 [D, L]) bs (((List.range j).filter (isPutIn log c)).map fun k : Nat => ((i : Int), (k : Int))))
          ⟨same_new nL, [], upd_same, .nil⟩ (fun _ _ _ _ => trivial) ?_ ?_
        · rintro j z H4' H4 hj ⟨s4, bs, e4, hb⟩ ⟨rfl, rfl⟩
          have hjl : j < xs.length := by omega
          obtain ⟨rj, hrj⟩ : ∃ rj, log[j]? = some rj := ⟨log[j]'(by omega), List.getElem?_eq_getElem (by omega)⟩
          obtain ⟨vj, hvj, hdj⟩ := all_at hxs hrj
          obtain ⟨rb, zs, rfl, hrb, hxj⟩ := row_inv hdj
          have s04 := s23.trans s4
          have hla4 := Same.sqt s04 hla
          have hRb := Same.sqt s04 hrb
          have hRa := Same.sqt s04 hra
          have hat : atI xs (0 + (j : Int)) = some (.ref rb) := at_of (Int.zero_add _) hvj
          have hlen : bs.length ≤ j := by
            have h1 := all_len hb
            rw [List.length_map] at h1
            have h2 := List.length_filter_le (isPutIn log c) (List.range j)
            rw [List.length_range] at h2
            omega
          have no : isPutIn log c j = false → HdAll K (off H4 [D, L]) bs (((List.range (j + 1)).filter (isPutIn log c)).map fun k : Nat => ((i : Int), (k : Int))) := by
            intro hn
            rw [List.range_succ, List.filter_append]
            simpa [hn] using hb
          cases rj with
          | put n k =>
            cases (show zs = [.str "put", .str n, .str k] from hxj)
            refine ⟨rfl, .ref la, rfl, .int (0 + (j : Int)), rfl, la, xs, _, _, rfl, rfl, hla4, hat, rb, _, 0, .str "put", rfl, rfl, hRb, atI_nat (j := 0) rfl, rfl, _, rfl, ifT (decide_eq_true rfl) ?_⟩
            refine ⟨.ref la, rfl, .int (0 + (j : Int)), rfl, la, xs, _, _, rfl, rfl, hla4, hat, rb, _, 2, .str k, rfl, rfl, hRb, atI_nat (j := 2) rfl, .ref ra, rfl, ra, _, 1, u, rfl, rfl, hRa, atI_nat (j := 1) rfl, ?_⟩
            refine ⟨k, c, hd_str k, .inr (Dp.mono s04 hu), _, rfl, ?_⟩
            have hip : isPutIn log c j = decide (k ∈ c) := by unfold isPutIn; rw [hrj]
            by_cases hm : k ∈ c
            · refine ifT (decide_eq_true hm) ?_
              refine ⟨.int (i : Nat), rfl, .int (0 + (j : Int)), rfl, len_ok (by simp), fun p np => ?_⟩
              have pD : p ≠ D := (ne_of_none (s4 _ _ e3) np).symm
              have pL : p ≠ L := (ne_of_none e4 np).symm
              have e4' : (upd H4 p (.tup [.int (i : Nat), .int (0 + (j : Int))])) L = some (.lst bs) := by rw [upd_ne pL.symm]; exact e4
              refine ⟨bs, e4', small1000 (by omega), ?_, _, upd_same, ?_⟩
              · intro b o eb
                rw [upd_ne (ne_of_none eb nL)]
                exact (s4.trans (same_new np)) _ _ eb
              · rw [List.range_succ, List.filter_append, List.map_append]
                have m1 : Same (off H4 [D, L]) (off (upd (upd H4 p (.tup [.int (i : Nat), .int (0 + (j : Int))])) L (.lst (bs ++ [.ref p]))) [D, L]) := (off_new np).trans (off_wr (by simp))
                have hp' : off (upd (upd H4 p (.tup [.int (i : Nat), .int (0 + (j : Int))])) L (.lst (bs ++ [.ref p]))) [D, L] p = some (.tup [.int (i : Nat), .int (0 + (j : Int))]) := off_of (by simp [pD, pL]) (by rw [upd_ne pL, upd_same])
                have : ([j].filter (isPutIn log c)).map (fun k : Nat => ((i : Int), (k : Int))) = [((i : Int), (j : Int))] := by simp [hip, hm]
                rw [this]
                refine all_app (DpAll.mono m1 hb) (all_one (hd_pair (sqt_of hp') (hd_int _) ?_))
                rw [Int.zero_add]
                exact hd_int _
            · refine ifF (decide_eq_false hm) ⟨s4, bs, e4, no (by rw [hip]; exact decide_eq_false hm)⟩
          | drop n =>
            cases (show zs = [.str "drop", .str n] from hxj)
            refine ⟨rfl, .ref la, rfl, .int (0 + (j : Int)), rfl, la, xs, _, _, rfl, rfl, hla4, hat, rb, _, 0, .str "drop", rfl, rfl, hRb, atI_nat (j := 0) rfl, rfl, _, rfl, ifF s_pd ?_⟩
            exact ifF rfl ⟨s4, bs, e4, no (by unfold isPutIn; rw [hrj])⟩
          | call c2 =>
            obtain ⟨u2, e0, hu2⟩ := (show ∃ u, zs = [.str "call", u] ∧ Hd K H u (Tup.mk c2) from hxj)
            cases e0
            refine ⟨rfl, .ref la, rfl, .int (0 + (j : Int)), rfl, la, xs, _, _, rfl, rfl, hla4, hat, rb, _, 0, .str "call", rfl, rfl, hRb, atI_nat (j := 0) rfl, rfl, _, rfl, ifF s_cp ?_⟩
            exact ifF rfl ⟨s4, bs, e4, no (by unfold isPutIn; rw [hrj])⟩
        · rintro H4 ⟨s4, bs, e4, hb⟩
          have e34 := s4 _ _ e3
          have pi : pairsAt log i = ((List.range i).filter (isPutIn log c)).map fun k : Nat => ((i : Int), (k : Int)) := by unfold pairsAt; rw [hr']
          have bl := all_len hb
          rw [← pi] at bl
          have bl2 := pairsAt_len log i
          have al := all_len ha
          have al2 := pairs_len log i (by omega)
          refine ⟨D, L, acc, bs, rfl, rfl, e34, e4, ?_, ⟨_, _, _, rfl⟩, ?_, _, upd_same, ?_⟩
          · have : sizeLine = 16777216 := by decide
            omega
          · intro b o eb
            rw [upd_ne (ne_of_none eb nD)]
            exact s4 _ _ (s23 _ _ eb)
          · rw [pairs_succ, pi]
            have m1 : Same (off H4 [D]) (off (upd H4 D (.lst (acc ++ bs))) [D]) := off_wr (by simp)
            exact all_app (DpAll.mono ((off_same s4).trans m1) ha3) (DpAll.mono ((off_mono (by simp)).trans m1) hb)
    · rintro σ H2 ⟨⟨y2, y3, y4, rfl⟩, s2, hls⟩
      rw [xl] at hls
      exact ⟨.ref D, rfl, q D H2 nD hls s2⟩
/-! ### _law_put_indexes -/
theorem merge_nd : ∀ {more kvs : List (Key × V)}, ((kvs ++ more).map (·.1)).Nodup → mergeK kvs more = kvs ++ more
  | [], kvs, _ => by unfold mergeK; simp
  | p :: r, kvs, nd => by
    have hn : valV kvs p.1 = none := by
      cases e : valV kvs p.1 with
      | none => rfl
      | some v =>
        exfalso
        have h1 := valV_in e
        rw [List.map_append, List.nodup_append] at nd
        exact nd.2.2 _ h1 p.1 (by simp) rfl
    have e1 : mergeK kvs (p :: r) = mergeK (kvs ++ [p]) r := by
      show mergeK (putK kvs p.1 p.2) r = _
      rw [putK_new _ hn]
    rw [e1, merge_nd (by simpa using nd)]
    simp
theorem putNames_at {log : List Row} {i : Nat} {n k : Str} (h : log[i]? = some (.put n k)) : True := trivial
theorem putK_nd {log : List Row} (nd : (putNames log).Nodup) : ∀ n, ((putK' (putL log n)).map (·.1)).Nodup
  | 0 => List.nodup_nil
  | n + 1 => by
    cases e : log[n]? with
    | none =>
      rw [show putL log (n + 1) = putL log n by rw [putL_succ]; unfold putRow; rw [e]; simp]
      exact putK_nd nd n
    | some r =>
      cases r with
      | put m k =>
        rw [put_snoc e, List.map_append]
        exact nd_snoc (putK_nd nd n) (valV_not (put_new nd e))
      | call c =>
        rw [put_other e rfl]
        exact putK_nd nd n
      | drop m =>
        rw [put_other e rfl]
        exact putK_nd nd n
def spPutIx (K : PySem.W.Frag) : Sp := fun vs H Q _ => ∃ (lv : V) (log : List Row), vs = [lv] ∧ Hd K H lv (Tup.mk log) ∧ log.length ≤ 200 ∧ (putNames log).Nodup ∧
  ∀ p H', H p = none → H' p = some (.dK (putK' (putL log log.length))) → Same H H' → Q (.ref p) H'
theorem paired_snoc {α β : Type} {R : α → β → Prop} {xs : List α} {ys : List β} (h : Paired R xs ys) {x : α} {y : β} (r : R x y) : Paired R (xs ++ [x]) (ys ++ [y]) := by
  induction h with
  | nil => exact .cons r .nil
  | cons a _ ih => exact .cons a ih
theorem paired_mono {α β : Type} {R R' : α → β → Prop} {xs : List α} {ys : List β} (h : Paired R xs ys) (k : ∀ x y, R x y → R' x y) : Paired R' xs ys := by
  induction h with
  | nil => exact .nil
  | cons a _ ih => exact .cons (k _ _ a) ih
theorem paired_len {α β : Type} {R : α → β → Prop} {xs : List α} {ys : List β} (h : Paired R xs ys) : xs.length = ys.length := by
  induction h with
  | nil => rfl
  | cons a _ ih => rw [List.length_cons, List.length_cons, ih]
abbrev s_law_put_indexes : Stmt := topS 51
abbrev p_law_put_indexes : List Str := ["_law_log_here"]
theorem sc_law_put_indexes : FnScope ["_law_log_here", "_law_at", "_law_row"] ["_law_log_here"] (defScope s_law_put_indexes) := ⟨rfl, rfl, rfl, by decide +kernel, rfl, by decide +kernel, by decide +kernel⟩
theorem c_put_indexes (D : Def K mg "_law_put_indexes" s_law_put_indexes p_law_put_indexes) (B : Blt mg) : Cal P w K mg base "_law_put_indexes" p_law_put_indexes 1 (spPutIx K) := by
  refine D.cal sc_law_put_indexes (fun vs H Q E h => ?_) (fun f cdv A outer s H vs Q E hr h => ?_)
  · obtain ⟨lv, log, rfl, _⟩ := h; rfl
  · obtain ⟨lv, log, rfl, hl, ol, nd, q⟩ := h
    refine ⟨_, (pss_one (ps_ret (pe_callTy (k_dict K) (by rfl) B.dict (by decide +kernel) (pa_cons (pe_lc rfl sc_law_put_indexes.nd (k_enumT K B.enumerate (pa_cons (pv 0) pa_nil)) (blkOk_by (own := [("_law_at", 1), ("_law_row", 2)]) (by kernel_rfl)) (fun _ _ _ _ _ => (k_tup K (n := 2) rfl (pgs_cons (pg_name (i := 1) sc_law_put_indexes.nd rfl (by first | exact .inl rfl | exact .inr rfl)) (pgs_cons (pg_name (i := 2) sc_law_put_indexes.nd rfl (by first | exact .inl rfl | exact .inr rfl)) pgs_nil)))) (fun _ _ _ _ _ => (pts_one (pt_cmpR op_eq (pe_ix (k_ixT K) (pv 2) pe_int (fun _ _ => rfl)) pe_str (nomark _)))) (fun _ _ _ _ _ => (pe_tup (pa_cons (pe_ix (k_ixT K) (pv 2) pe_int (fun _ _ => rfl)) (pa_cons (pv 1) pa_nil))))) pa_nil)))), ?_⟩
    obtain ⟨la, xs, rfl, hla, hxs⟩ := hd_tup_inv hl
    have xl : xs.length = log.length := all_len hxs
    refine ⟨.ref la, rfl, la, xs, rfl, hla, fun D nD => ?_⟩
    refine lc_it (walk_enumT (xs := xs)) (fun i H2 => Same H H2 ∧ ∃ ps, H2 D = some (.lst (ps.map V.ref)) ∧ Paired (fun p kv => SqT K H2 p [kV kv.1, kv.2]) ps (putK' (putL log i)))
      ⟨same_new nD, [], upd_same, .nil⟩ (fun i H2 _ t => Same.sqt t.1 hla) ?_ ?_
    · rintro i z H2 H3 hi ⟨s2, ps, e, hp⟩ ⟨T, u1, u2, rfl, nT, rfl, e1, e2⟩
      cases (Option.some.inj e1)
      obtain ⟨r, hr', hd⟩ := all_get hxs e2
      have s3 : Same H2 (upd H2 T (.tup [.int (i : Nat), u2])) := same_new nT
      refine ⟨T, _, rfl, sqt_new, rfl, .int (i : Nat), [u2], rfl, u2, [], rfl, rfl, rfl, ?_⟩
      generalize upd H2 T (.tup [.int (i : Nat), u2]) = H3 at s3
      have e3 := s3 _ _ e
      have hp3 : Paired (fun p kv => SqT K H3 p [kV kv.1, kv.2]) ps (putK' (putL log i)) := paired_mono hp fun _ _ h => Same.sqt s3 h
      obtain ⟨ra, ys, rfl, hra, hx⟩ := row_inv hd
      have s23 := s2.trans s3
      have hR := Same.sqt s23 hra
      have pl := paired_len hp
      have kl : (putK' (putL log i)).length ≤ i := by
        unfold putK'
        rw [List.length_map]
        exact putL_len log i
      cases r with
      | put n k =>
        cases (show ys = [.str "put", .str n, .str k] from hx)
        refine ⟨.ref ra, rfl, ra, _, 0, .str "put", rfl, rfl, hR, atI_nat (j := 0) rfl, rfl, _, rfl, ifT (decide_eq_true rfl) ?_⟩
        refine ⟨.ref ra, rfl, ra, _, 1, .str n, rfl, rfl, hR, atI_nat (j := 1) rfl, .int (i : Nat), rfl, len_ok (by simp), fun p np => ?_⟩
        have pD : p ≠ D := (ne_of_none e3 np).symm
        have sp : Same H3 (upd H3 p (.tup [.str n, .int (i : Nat)])) := same_new np
        refine ⟨ps.map V.ref, by rw [upd_ne pD.symm]; exact e3, small1000 (by rw [List.length_map]; omega), fun b o eb => ?_, ps ++ [p], by rw [upd_same, List.map_append]; rfl, ?_⟩
        · rw [upd_ne (ne_of_none eb nD)]
          exact sp _ _ (s23 _ _ eb)
        · have mT : ∀ (a : Addr) (zs : List V), SqT K (upd H3 p (.tup [.str n, .int (i : Nat)])) a zs → SqT K (upd (upd H3 p (.tup [.str n, .int (i : Nat)])) D (.lst (ps.map V.ref ++ [.ref p]))) a zs := by
            intro a zs h
            rcases h with h | h
            · rcases h with h | ⟨o, h⟩
              · refine .inl (.inl ?_)
                rw [upd_ne (fun z => ?_)]
                · exact h
                · rw [z, upd_ne pD.symm, e3] at h; cases h
              · refine .inl (.inr ⟨o, ?_⟩)
                rw [upd_ne (fun z => ?_)]
                · exact h
                · rw [z, upd_ne pD.symm, e3] at h; cases h
            · exact .inr h
          rw [put_snoc hr']
          exact paired_snoc (paired_mono hp3 fun _ _ h => mT _ _ (Same.sqt sp h)) (mT _ _ sqt_new)
      | drop n =>
        cases (show ys = [.str "drop", .str n] from hx)
        refine ⟨.ref ra, rfl, ra, _, 0, .str "drop", rfl, rfl, hR, atI_nat (j := 0) rfl, rfl, _, rfl, ifF s_pd ⟨s23, ps, e3, ?_⟩⟩
        rw [put_other hr' rfl]; exact hp3
      | call c =>
        obtain ⟨u, e0, hu⟩ := (show ∃ u, ys = [.str "call", u] ∧ Hd K H u (Tup.mk c) from hx)
        cases e0
        refine ⟨.ref ra, rfl, ra, _, 0, .str "call", rfl, rfl, hR, atI_nat (j := 0) rfl, rfl, _, rfl, ifF s_cp ⟨s23, ps, e3, ?_⟩⟩
        rw [put_other hr' rfl]; exact hp3
    · rintro H2 ⟨s2, ps, e, hp⟩
      rw [xl] at hp
      refine ⟨D, ps, _, rfl, sql_of e, hp, fun p np => ?_⟩
      have em : mergeK [] (putK' (putL log log.length)) = putK' (putL log log.length) := merge_nd (kvs := []) (putK_nd nd log.length)
      rw [em]
      exact q p _ (s2.free np) upd_same (s2.trans (same_new np))
end
end CB
set_option Elab.async false
set_option linter.all false
set_option maxRecDepth 100000
set_option maxHeartbeats 4000000
namespace CB
open PySem PySem.Spec
open PyProof.Rows L2
open PySem.W (Datum Tup DatumOrd)
/-! ### names -/
def baseL (a : Nat) : List Nat := if a < 26 then [97 + a] else [97 + (a - 26) / 26, 97 + (a - 26) % 26]
def nmL (a : Nat) : List Nat := baseL a ++ if a % 9 = 4 then [122, 122, 122, 122] else []
def nmS (a : Nat) : Str := ⟨(nmL a).toArray⟩
theorem nmL_inj {a b : Nat} (ha : a < 702) (hb : b < 702) (h : nmL a = nmL b) : a = b := by
  unfold nmL baseL at h
  by_cases h1 : a < 26 <;> by_cases h2 : b < 26 <;> by_cases h3 : a % 9 = 4 <;> by_cases h4 : b % 9 = 4 <;> simp [h1, h2, h3, h4] at h <;> omega
theorem nmS_inj {a b : Nat} (ha : a < 702) (hb : b < 702) (h : nmS a = nmS b) : a = b := by
  refine nmL_inj ha hb ?_
  have := congrArg (fun x : Str => x.cps.toList) h
  simpa [nmS] using this
theorem letter_at : ∀ i : Nat, i < 26 → letters.cps.toList[i]? = some (97 + i) := by decide +kernel
theorem letter_in : ∀ i : Nat, i < 26 → 97 + i ∈ letters.cps.toList := by decide +kernel
theorem nm_nmS {a : Nat} (ha : a < 702) : Nm (nmS a) := by
  have hl : (nmS a).length = (nmL a).length := by
    show ((nmL a).toArray).size = _
    simp
  refine ⟨?_, ?_, ?_⟩
  · rw [hl]; unfold nmL baseL; split <;> split <;> simp
  · rw [hl]; unfold nmL baseL; split <;> split <;> simp
  · intro c hc
    have hc : c ∈ nmL a := by simpa [nmS] using hc
    unfold nmL baseL at hc
    have z : (122 : Nat) ∈ letters.cps.toList := letter_in 25 (by decide)
    rcases List.mem_append.mp hc with h | h
    · split at h
      · rw [List.mem_singleton] at h
        rw [h]; exact letter_in a (by assumption)
      · rcases List.mem_cons.mp h with h | h
        · rw [h]; exact letter_in _ (by omega)
        · rw [List.mem_singleton] at h
          rw [h]; exact letter_in _ (by omega)
    · split at h
      · simp at h; rw [h]; exact z
      · cases h
theorem mod_inj {k j s : Nat} (hk : k < 702) (hj : j < 702) (h : (k * 577 + s) % 702 = (j * 577 + s) % 702) : k = j := by omega
section
variable {P : Program} {w : World} {K : PySem.W.Frag} {mg : Str → Option Value} {base : Heap} {C p0 p1 p2 p3 : Addr}
def spNms (K : PySem.W.Frag) : Sp := fun vs H Q _ => ∃ (b c : Addr) (m : Nat), vs = [.ref b, .int (m : Int)] ∧ Bg H b c ∧ m ≤ 200 ∧
  ∀ p (names : List Str) H', H p = none → H' p = some (.lst (names.map V.str)) → names.length = m → names.Nodup → (∀ n ∈ names, Nm n) → Kp [b] H H' → Bg H' b c → Q (.ref p) H'
abbrev s_law_thing_names : Stmt := topS 44
abbrev p_law_thing_names : List Str := ["_law_bag_here", "_law_many"]
theorem sc_law_thing_names : FnScope ["_law_bag_here", "_law_many", "_law_signs", "_law_shift", "_law_found", "_law_k", "_law_at", "_law_name"] ["_law_bag_here", "_law_many"] (defScope s_law_thing_names) := ⟨rfl, rfl, rfl, by decide +kernel, rfl, by decide +kernel, by decide +kernel⟩
theorem c_thing_names (D : Def K mg "_law_thing_names" s_law_thing_names p_law_thing_names) (B : Blt mg) (C_law_take : Cal P w K mg base "_law_take" p_law_take 1 spTake) :
    Cal P w K mg base "_law_thing_names" p_law_thing_names 2 (spNms K) := by
  refine D.cal sc_law_thing_names (fun vs H Q E h => ?_) (fun f cdv A outer s H vs Q E hr h => ?_)
  · obtain ⟨b, c, m, rfl, _⟩ := h; rfl
  · obtain ⟨b, c, m, rfl, hb, hm, q⟩ := h
    refine ⟨_, (pss_cons (ps_par3 (i := 2) (j := 3) (l := 4) rfl sc_law_thing_names.nd rfl rfl rfl (by decide) (by decide) (by decide) rfl rfl rfl (pa_cons pe_str (pa_cons (pe_cal C_law_take hr (pa_cons (pv 0) (pa_cons pe_int pa_nil))) (pa_cons (pe_lst pa_nil) pa_nil))) rfl)
  (pss_cons (ps_for PassesOwn.never rfl (pi_range1 (by rfl) B.range (pa_cons (pv 1) pa_nil)) (pg_name (i := 5) sc_law_thing_names.nd rfl (by first | exact .inl rfl | exact .inr rfl))
  (pss_cons (ps_set (i := 6) sc_law_thing_names.nd rfl (.inl rfl) (pe_op op_mod (pe_callTy call_int1 (by rfl) B.int (by decide +kernel) (pa_cons (pe_op op_add (pe_op op_mul (pv 5) pe_int) (pv 3)) pa_nil)) pe_int))
  (pss_cons (ps_set (i := 7) sc_law_thing_names.nd rfl (.inl rfl) (pe_ifExp (pt_cmpR op_lt (pv 6) pe_int (nomark _)) (pe_ix ix_str (pv 2) (pv 6) (fun _ _ => rfl)) (pe_op op_add_str (pe_ix ix_str (pv 2) (pe_op op_fdiv (pe_callTy call_int1 (by rfl) B.int (by decide +kernel) (pa_cons (pe_op op_sub (pv 6) pe_int) pa_nil)) pe_int) (fun _ _ => rfl)) (pe_ix ix_str (pv 2) (pe_op op_mod (pe_callTy call_int1 (by rfl) B.int (by decide +kernel) (pa_cons (pe_op op_sub (pv 6) pe_int) pa_nil)) pe_int) (fun _ _ => rfl)))))
  (pss_by (fun D σ H2 => ∃ y0 y1 y2 y3 l y5, ∃ (a : Nat) (ns : List Str), σ = [y0, y1, y2, y3, some (.ref l), y5, some (.int (a : Int)), some (.str ⟨(baseL a).toArray⟩)] ∧ a < 702 ∧ H2 l = some (.lst (ns.map V.str)) ∧ ns.length ≤ 500 ∧ D.nx σ (upd H2 l (.lst ((ns ++ [nmS a]).map V.str))))
  (pss_one (ps_expr (k_bm K PySem.F.plainAttrs_list PySem.F.slot_list_append PySem.F.type_list_append mt_append (pv 4) (pa_cons (pe_ifExp (pt_cmpR op_eq (pe_op op_mod (pe_callTy call_int1 (by rfl) B.int (by decide +kernel) (pa_cons (pv 6) pa_nil)) pe_int) pe_int (nomark _)) (pe_op op_add_str (pv 7) pe_str) (pv 7)) pa_nil)))) ?cut248))))
  (pss_one (ps_ret (pv 4))))), ?_⟩
    case cut248 =>
      rintro D σ H2 ⟨y0, y1, y2, y3, l, y5, a, ns, rfl, ha, e, hl, q⟩
      refine ⟨.ref l, rfl, .inl ⟨rfl, _, sql_of e⟩, ?_⟩
      refine ⟨.int (a : Int), rfl, .inl ⟨(a : Int), rfl, _, 9, rfl, rfl, (by decide : (0 : Int) < 9), rfl, _, rfl, ?_⟩⟩
      have hl2 : (ns.map V.str).length < sizeLine := small1000 (by rw [List.length_map]; omega)
      by_cases h4 : a % 9 = 4
      · refine ifT (decide_eq_true (congrArg V.int (by omega))) ?_
        refine ⟨_, rfl, _, "zzzz", rfl, rfl, ?_, l, _, _, rfl, rfl, e, hl2, ?_⟩
        · exact Nat.le_of_lt (small1000 (by
            show ((baseL a).toArray).size + 4 ≤ 1000
            unfold baseL
            split <;> simp))
        · have e : (⟨(baseL a).toArray⟩ : Str) ++ ("zzzz" : Str) = nmS a := by
            unfold nmS nmL
            rw [if_pos h4]
            show (⟨(baseL a).toArray ++ #[122, 122, 122, 122]⟩ : Str) = _
            simp
          rw [List.map_append] at q
          rw [e]
          exact q
      · refine ifF (decide_eq_false (fun z => h4 (by have := V.int.inj z; omega))) ?_
        refine ⟨_, rfl, l, _, _, rfl, rfl, e, hl2, ?_⟩
        have e : (⟨(baseL a).toArray⟩ : Str) = nmS a := by
          unfold nmS nmL
          rw [if_neg h4, List.append_nil]
        rw [List.map_append] at q
        rw [e] at q ⊢
        exact q
    refine ⟨.ref b, rfl, b, c, 702, rfl, hb, by decide, by decide, fun r H1 r0 r1 k1 b1 => ⟨by decide, fun D nD => ⟨_, _, _, rfl, ?_⟩⟩⟩
    obtain ⟨sh, rfl⟩ : ∃ n : Nat, r = n := ⟨r.toNat, by omega⟩
    have nD0 : H D = none := by
      cases e : H D with
      | none => rfl
      | some o =>
        by_cases h : D = b
        · exact absurd (h ▸ nD) (by obtain ⟨⟨x, y, z, h1, _⟩, _⟩ := b1; rw [h1]; simp)
        · have := k1 D o (by simpa using h) e
          rw [this] at nD; cases nD
    refine ⟨.int (m : Int), rfl, (m : Int), rfl, by omega, by omega, ?_⟩
    rw [Int.toNat_natCast]
    refine for_it (walk_range (lo := 0) (n := m)) (fun i σ H2 => (∃ y5 y6 y7, σ = [some (.ref b), some (.int (m : Int)), some (.str letters), some (.int (sh : Int)), some (.ref D), y5, y6, y7]) ∧ Kp [b] H H2 ∧ Bg H2 b c ∧
      H2 D = some (.lst (((List.range i).map fun k => nmS ((k * 577 + sh) % 702)).map V.str)))
      ⟨⟨none, none, none, rfl⟩, k1.wf nD0, b1.new nD, upd_same⟩ (fun _ _ _ _ _ => trivial) ?_ ?_
    · rintro i z σ H2' H2 hi ⟨⟨y5, y6, y7, rfl⟩, k2, b2, e2⟩ ⟨rfl, rfl⟩
      have hat : (((0 + (i : Int)) * 577 + (sh : Int)) % 702) = (((i * 577 + sh) % 702 : Nat) : Int) := by omega
      have hlt : (i * 577 + sh) % 702 < 702 := Nat.mod_lt _ (by decide)
      -- at
      refine ⟨.int (0 + (i : Int)), rfl, _, 577, rfl, rfl, .inr (by decide), .int (sh : Int), rfl, _, _, rfl, rfl, .inl ⟨_, rfl, _, 702, rfl, rfl, (by decide : (0 : Int) < 702), ?_⟩⟩
      dsimp only
      rw [hat]
      generalize hA : (i * 577 + sh) % 702 = a at hlt
      have hletL : letters.length ≤ sizeLine := by decide
      have k3 : ∀ v, Kp [b] H (upd H2 D v) := fun v => k2.wf nD0
      have b3 : ∀ v, Bg (upd H2 D v) b c := fun v => b2.kp (S := [D]) (Kp.wr (by simp)) (by simp; exact (hb.ne nD0).symm) (by simp; exact (hb.nec nD0).symm)
      have fin : ∀ y5', ∃ y0 y1 y2 y3 l y5, ∃ (a' : Nat) (ns : List Str), [some (V.ref b), some (.int (m : Int)), some (.str letters), some (.int (sh : Int)), some (.ref D), y5', some (.int (a : Int)), some (.str ⟨(baseL a).toArray⟩)] =
          [y0, y1, y2, y3, some (.ref l), y5, some (.int (a' : Int)), some (.str ⟨(baseL a').toArray⟩)] ∧ a' < 702 ∧ H2 l = some (.lst (ns.map V.str)) ∧ ns.length ≤ 500 ∧
          ((∃ z5 z6 z7, [some (V.ref b), some (.int (m : Int)), some (.str letters), some (.int (sh : Int)), some (.ref D), y5', some (.int (a : Int)), some (.str ⟨(baseL a).toArray⟩)] = [some (V.ref b), some (.int (m : Int)), some (.str letters), some (.int (sh : Int)), some (.ref D), z5, z6, z7]) ∧
            Kp [b] H (upd H2 l (.lst ((ns ++ [nmS a']).map V.str))) ∧ Bg (upd H2 l (.lst ((ns ++ [nmS a']).map V.str))) b c ∧
            (upd H2 l (.lst ((ns ++ [nmS a']).map V.str))) D = some (.lst (((List.range (i + 1)).map fun k => nmS ((k * 577 + sh) % 702)).map V.str))) := by
        intro y5'
        refine ⟨_, _, _, _, D, _, a, _, rfl, hlt, e2, by simp; omega, ⟨_, _, _, rfl⟩, k3 _, b3 _, ?_⟩
        rw [upd_same, List.range_succ, List.map_append (l₁ := List.range i), ← hA]
        rfl
      by_cases h26 : a < 26
      · refine ⟨.int (a : Int), rfl, a, 26, rfl, rfl, _, rfl, ifT (decide_eq_true (by omega)) ?_⟩
        refine ⟨.str letters, rfl, .int (a : Int), rfl, letters, (a : Int), 97 + a, rfl, rfl, hletL, atI_nat (letter_at a h26), ?_⟩
        have e : baseL a = [97 + a] := by unfold baseL; rw [if_pos h26]
        rw [e] at fin
        exact fin _
      · have e : baseL a = [97 + (a - 26) / 26, 97 + (a - 26) % 26] := by unfold baseL; rw [if_neg h26]
        rw [e] at fin
        refine ⟨.int (a : Int), rfl, a, 26, rfl, rfl, _, rfl, ifF (decide_eq_false (by omega)) ?_⟩
        have h1 : (((a : Int) - 26) / 26) = (((a - 26) / 26 : Nat) : Int) := by omega
        have h2 : (((a : Int) - 26) % 26) = (((a - 26) % 26 : Nat) : Int) := by omega
        refine ⟨.str letters, rfl, .int (a : Int), rfl, a, 26, rfl, rfl, .inl ⟨_, rfl, _, 26, rfl, rfl, ⟨by decide, by decide⟩, ?_⟩⟩
        refine ⟨letters, _, 97 + (a - 26) / 26, rfl, rfl, hletL, (by
          show atI letters.cps.toList (((a : Int) - 26) / 26) = _
          rw [h1]
          exact atI_nat (letter_at _ (by omega))), ?_⟩
        refine ⟨.str letters, rfl, .int (a : Int), rfl, a, 26, rfl, rfl, .inl ⟨_, rfl, _, 26, rfl, rfl, (by decide : (0 : Int) < 26), ?_⟩⟩
        refine ⟨letters, _, 97 + (a - 26) % 26, rfl, rfl, hletL, ?_, ?_⟩
        · show atI letters.cps.toList (((a : Int) - 26) % 26) = _
          rw [h2]
          exact atI_nat (letter_at _ (by omega))
        · refine ⟨_, _, rfl, rfl, (show 1 + 1 ≤ sizeLine by decide), ?_⟩
          exact fin _
    · rintro σ H2 ⟨⟨y5, y6, y7, rfl⟩, k2, b2, e2⟩
      refine ⟨.ref D, rfl, q D _ H2 nD0 e2 (by simp) ?_ ?_ k2 b2⟩
      · rw [List.nodup_iff_pairwise_ne, List.pairwise_map]
        have h := List.pairwise_lt_range (n := m)
        refine (List.pairwise_iff_getElem.mpr fun i j hi hj hij => ?_)
        rw [List.getElem_range, List.getElem_range]
        rw [List.length_range] at hi hj
        intro e
        have := nmS_inj (Nat.mod_lt _ (by decide)) (Nat.mod_lt _ (by decide)) e
        have := mod_inj (by omega) (by omega) this
        omega
      · intro n hn
        obtain ⟨k, _, rfl⟩ := List.mem_map.mp hn
        exact nm_nmS (Nat.mod_lt _ (by decide))
end
end CB
set_option Elab.async false
set_option linter.all false
set_option maxRecDepth 100000
set_option maxHeartbeats 4000000
namespace CB
open PySem PySem.Spec
open PyProof.Rows L2
open PySem.W (Datum Tup DatumOrd)
theorem Bg.free {H H1 : Hp} {b c D : Addr} (h : Bg H1 b c) (k : Kp [b] H H1) (n : H1 D = none) : H D = none := by
  have nb := h.ne n
  cases e : H D with
  | none => rfl
  | some o => rw [k D o (by simpa using nb) e] at n; cases n
theorem off_far {H H' : Hp} {b D : Addr} (k : Kp [b] H H') (n : H D = none) : Same (off H [b]) (off H' (D :: [b])) := by
  intro c o e
  obtain ⟨n1, e1⟩ := off_some e
  have n0 : c ≠ D := ne_of_none e1 n
  exact off_of (by simp at n1; simp [n0, n1]) (k _ _ n1 e1)
/-! ### deeds -/
inductive Deed where
  | put (k : Str)
  | call (c : List Str)
  deriving DecidableEq
def Deed.dat : Deed → PyData
  | .put k => .tuple [.str "put", .str k]
  | .call c => .tuple [.str "call", .tuple (c.map PyData.str)]
theorem deed_eqv (a b : Deed) : PyData.eqv a.dat b.dat = decide (a = b) := by
  have d1 : decide (("put" : Str) = "call") = false := by decide
  have d3 : decide (("call" : Str) = "put") = false := by decide
  cases a <;> cases b <;> simp only [Deed.dat] <;> rw [PyData.eqv] <;> simp only [PyData.eqvAll, eqv_str, eqv_strs, d1, d3, decide_true, Bool.true_and, Bool.and_true, Bool.false_and, reduceCtorEq, decide_false, Deed.put.injEq, Deed.call.injEq]
instance : Datum Deed where
  toD := Deed.dat
  plain r := by
    cases r with
    | call c => simp only [Deed.dat, PyData.plain, PyData.plainAll, Bool.true_and, Bool.and_true]; have := plain_strs c; simpa only [PyData.plain] using this
    | _ => rfl
  eqv := deed_eqv
  depth := 2
  depth_le r := by
    cases r with
    | call c => simp only [Deed.dat, PyData.depth, PyData.depthAll]; have := depth_strs c; simp only [PyData.depth] at this; omega
    | _ => simp only [Deed.dat, PyData.depth, PyData.depthAll]; decide
def DeedOk (ks : List Str) (cs : List (List Str)) : Deed → Prop
  | .put k => k ∈ ks
  | .call c => c ∈ cs
/-- put or call -/
def Row.plain : Row → Bool
  | .drop _ => false
  | _ => true
section
variable {P : Program} {w : World} {K : PySem.W.Frag} {mg : Str → Option Value} {base : Heap} {C p0 p1 p2 p3 : Addr}
def DeedV (K : PySem.W.Frag) (H : Hp) (xs : List V) : Deed → Prop
  | .put k => xs = [.str "put", .str k]
  | .call c => ∃ u, xs = [.str "call", u] ∧ Hd K H u (Tup.mk c)
theorem deed_inv {H : Hp} {v : V} {r : Deed} (h : Hd K H v r) : ∃ a xs, v = .ref a ∧ SqT K H a xs ∧ DeedV K H xs r := by
  cases r with
  | put k =>
    obtain ⟨a, xs, rfl, h1, h2⟩ := Dp.tup_inv (show Dp K H v (.tuple [.str "put", .str k]) from h)
    obtain ⟨x, y, rfl, g1, g2⟩ := h2.two_inv
    cases Dp.str_inv g1
    cases Dp.str_inv g2
    exact ⟨a, _, rfl, h1, rfl⟩
  | call c =>
    obtain ⟨a, xs, rfl, h1, h2⟩ := Dp.tup_inv (show Dp K H v (.tuple [.str "call", .tuple (c.map PyData.str)]) from h)
    obtain ⟨x, y, rfl, g1, g2⟩ := h2.two_inv
    cases Dp.str_inv g1
    exact ⟨a, _, rfl, h1, y, rfl, g2⟩
/-! ### _law_log_of -/
def spLogOf (K : PySem.W.Frag) : Sp := fun vs H Q _ => ∃ (b c : Addr) (dv : V) (ks : List Str) (cs : List (List Str)) (deeds : List Deed), vs = [.ref b, dv] ∧ Bg H b c ∧ Hd K (off H [b]) dv (Tup.mk deeds) ∧
  (∀ d ∈ deeds, DeedOk ks cs d) ∧ deeds.length ≤ 200 ∧
  ∀ v rows H', Hd K (off H' [b]) v (Tup.mk rows) → LogOk ks cs rows → (∀ r ∈ rows, r.plain = true) → rows.length ≤ deeds.length → Kp [b] H H' → Bg H' b c → Q v H'
abbrev s_law_log_of : Stmt := topS 45
abbrev p_law_log_of : List Str := ["_law_bag_here", "_law_stretch_here"]
theorem sc_law_log_of : FnScope ["_law_bag_here", "_law_stretch_here", "_law_names", "_law_found", "_law_deed"] ["_law_bag_here", "_law_stretch_here"] (defScope s_law_log_of) := ⟨rfl, rfl, rfl, by decide +kernel, rfl, by decide +kernel, by decide +kernel⟩
theorem c_log_of (D : Def K mg "_law_log_of" s_law_log_of p_law_log_of) (B : Blt mg) (C_law_thing_names : Cal P w K mg base "_law_thing_names" p_law_thing_names 2 (spNms K)) :
    Cal P w K mg base "_law_log_of" p_law_log_of 3 (spLogOf K) := by
  refine D.cal sc_law_log_of (fun vs H Q E h => ?_) (fun f cdv A outer s H vs Q E hr h => ?_)
  · obtain ⟨b, c, dv, ks, cs, deeds, rfl, _⟩ := h; rfl
  · obtain ⟨b, c, dv, ks, cs, deeds, rfl, hb, hd, hok, hl, q⟩ := h
    refine ⟨_, (pss_cons (ps_par (i := 2) (j := 3) rfl sc_law_log_of.nd rfl rfl (by decide) rfl rfl (pa_cons (pe_cal C_law_thing_names hr (pa_cons (pv 0) (pa_cons (pe_callB (k_len K) (by rfl) B.len (by decide +kernel) (pa_cons (pv 1) pa_nil)) pa_nil))) (pa_cons (pe_lst pa_nil) pa_nil)) rfl)
  (pss_cons (ps_for PassesOwn.never rfl (k_piT K (pv 1)) (pg_name (i := 4) sc_law_log_of.nd rfl (by first | exact .inl rfl | exact .inr rfl))
  (pss_one (ps_expr (k_bm K PySem.F.plainAttrs_list PySem.F.slot_list_append PySem.F.type_list_append mt_append (pv 3) (pa_cons (pe_ifExp (pt_cmpR op_eq (pe_ix (k_ixT K) (pv 4) pe_int (fun _ _ => rfl)) pe_str (nomark _)) (pe_tup (pa_cons pe_str (pa_cons (pe_ix (k_ixL K) (pv 2) (pe_callB (k_len K) (by rfl) B.len (by decide +kernel) (pa_cons (pv 3) pa_nil)) (fun _ _ => rfl)) (pa_cons (pe_ix (k_ixT K) (pv 4) pe_int (fun _ _ => rfl)) pa_nil)))) (pv 4)) pa_nil)))))
  (pss_one (ps_ret (pe_callTy (k_tuple K) (by rfl) B.tuple (by decide +kernel) (pa_cons (pv 3) pa_nil)))))), ?_⟩
    obtain ⟨da, xs, rfl, hda, hxs⟩ := hd_tup_inv hd
    have xl : xs.length = deeds.length := all_len hxs
    refine ⟨.ref b, rfl, .ref da, rfl, da, xs, rfl, .inr (off_sqt hda), b, c, xs.length, rfl, hb, by omega, fun N names H1 nN eN nl nnd nnm k1 b1 => ?_⟩
    refine ⟨by decide, fun D nD => ⟨_, _, rfl, ?_⟩⟩
    have nD0 := b1.free k1 nD
    have DN : N ≠ D := ne_of_none eN nD
    have Nb : N ≠ b := by
      intro e
      obtain ⟨⟨x, y, z, h1, _⟩, _⟩ := hb
      rw [e, h1] at nN; cases nN
    have nb := b1.ne nD
    have nc := b1.nec nD
    refine ⟨.ref da, rfl, da, rfl, ⟨_, Same.sqt (same_new nD) (off_sqt (Same.sqt k1.off' hda))⟩, ?_⟩
    refine for_it (walk_tup (xs := xs)) (fun i σ H2 => (∃ y4, σ = [some (.ref b), some (.ref da), some (.ref N), some (.ref D), y4]) ∧ Kp [b] H H2 ∧ Bg H2 b c ∧ H2 N = some (.lst (names.map V.str)) ∧
        ∃ rows, Ls K [b] H2 D rows ∧ rows.length = i ∧ (∀ r ∈ rows, RowOk ks cs r ∧ r.plain = true) ∧ (putNames rows).Sublist (names.take i))
      ⟨⟨none, rfl⟩, k1.up nD, b1.new nD, by rw [upd_ne DN]; exact eN, [], Ls.new rfl, rfl, by simp, List.nil_sublist _⟩ ?_ ?_ ?_
    · rintro i σ H2 _ ⟨_, k2, _⟩; exact off_sqt (Same.sqt k2.off' hda)
    · rintro i z σ H2' H2 hi ⟨⟨y4, rfl⟩, k2, b2, e2, rows, ls, rl, rok, rnm⟩ ⟨rfl, hz⟩
      obtain ⟨d, hdd, hd2⟩ := all_get hxs hz
      have hd3 : Hd K (off H2 [b]) z d := Dp.mono k2.off' hd2
      obtain ⟨ra, ys, rfl, hra, hx⟩ := deed_inv hd2
      have hR := off_sqt (Same.sqt k2.off' hra)
      have hdo := hok d (List.mem_of_getElem? hdd)
      have hDn := ls
      obtain ⟨acc, eD, hacc⟩ := ls
      have al := all_len hacc
      have hd4 : Hd K (off H2 (D :: [b])) (.ref ra) d := Dp.mono (fun c o e => by
        obtain ⟨n1, e1⟩ := off_some e
        have n0 : c ≠ D := ne_of_none e1 nD0
        exact off_of (by simp at n1; simp [n0, n1]) (k2 _ _ n1 e1)) hd2
      cases d with
      | put k =>
        cases (show ys = [.str "put", .str k] from hx)
        obtain ⟨n, hn⟩ : ∃ n, names[i]? = some n := ⟨names[i]'(by omega), List.getElem?_eq_getElem (by omega)⟩
        refine ⟨.ref D, rfl, .inl ⟨rfl, _, sql_of eD⟩, ?_⟩
        refine ⟨.ref ra, rfl, ra, _, 0, .str "put", rfl, rfl, hR, atI_nat (j := 0) rfl, rfl, _, rfl, ifT (decide_eq_true rfl) ?_⟩
        refine ⟨.ref N, rfl, .ref D, rfl, D, acc, rfl, .inl (sql_of eD), N, _, _, .str n, rfl, rfl, sql_of e2, ?_, .ref ra, rfl, ra, _, 1, .str k, rfl, rfl, hR, atI_nat (j := 1) rfl, len_ok (by simp), fun p np => ?_⟩
        · refine atI_nat ?_
          rw [List.getElem?_map, al, rl, hn]; rfl
        have pD := (ne_of_none eD np).symm
        have pb := b2.ne np
        have pc := b2.nec np
        have pN := (ne_of_none e2 np).symm
        have ls' : Ls K [b] (upd H2 p (.tup [.str "put", .str n, .str k])) D rows := Ls.kp (T := []) hDn (Kp.new np) (by simp) (by simp)
        have hrow : Hd K (off (upd H2 p (.tup [.str "put", .str n, .str k])) (D :: [b])) (.ref p) (Row.put n k) := row_put (x := .non) (y := .non) (z := .non) (sqt_of (off_of (by simp [pD, pb]) upd_same))
        obtain ⟨acc', e', l', ls2⟩ := ls'.push hrow
        refine ⟨D, acc', _, rfl, rfl, e', small1000 (by omega), ⟨_, rfl⟩, (k2.up np).wf nD0, (b2.new np).wr nb nc, ?_, _, ls2, by simp [rl], ?_, ?_⟩
        · rw [upd_ne DN, upd_ne pN.symm]; exact e2
        · intro r hr'
          rcases List.mem_append.mp hr' with h | h
          · exact rok r h
          · rw [List.mem_singleton] at h
            subst h
            refine ⟨⟨fun n' k' e => ?_, fun _ e => (by cases e), fun _ e => (by cases e)⟩, rfl⟩
            cases e
            exact ⟨nnm n (List.mem_of_getElem? hn), hdo⟩
        · rw [putNames_snoc, List.take_add_one, hn]
          exact rnm.append (List.Sublist.refl _)
      | call cc =>
        obtain ⟨u, e, hu⟩ := (show ∃ u, ys = [.str "call", u] ∧ Hd K (off H [b]) u (Tup.mk cc) from hx)
        cases e
        refine ⟨.ref D, rfl, .inl ⟨rfl, _, sql_of eD⟩, ?_⟩
        refine ⟨.ref ra, rfl, ra, _, 0, .str "call", rfl, rfl, hR, atI_nat (j := 0) rfl, rfl, _, rfl, ifF s_cp ?_⟩
        obtain ⟨acc', e', l', ls2⟩ := hDn.push (d := Row.call cc) hd4
        refine ⟨.ref ra, rfl, D, acc', _, rfl, rfl, e', small1000 (by omega), ⟨_, rfl⟩, k2.wf nD0, b2.wr nb nc, ?_, _, ls2, by simp [rl], ?_, ?_⟩
        · rw [upd_ne DN]; exact e2
        · intro r hr'
          rcases List.mem_append.mp hr' with h | h
          · exact rok r h
          · rw [List.mem_singleton] at h
            subst h
            refine ⟨⟨fun _ _ e => (by cases e), fun c' e => ?_, fun _ e => (by cases e)⟩, rfl⟩
            cases e
            exact hdo
        · rw [putNames_snoc]
          show (putNames rows ++ []).Sublist _
          rw [List.append_nil]
          exact rnm.trans (by rw [List.take_add_one]; exact List.sublist_append_left _ _)
    · rintro σ H2 ⟨⟨y4, rfl⟩, k2, b2, e2, rows, ls, rl, rok, rnm⟩
      obtain ⟨acc, eD, hacc⟩ := ls.all
      refine ⟨.ref D, rfl, D, acc, rfl, .inl ⟨sql_of eD, fun p np => ?_⟩⟩
      have pb := b2.ne np
      refine q (.ref p) rows _ (hd_tup (sqt_of (off_of (by simpa using pb) upd_same)) (DpAll.mono (off_new np) hacc)) ⟨fun r hr' => (rok r hr').1, ?_, by omega⟩ (fun r hr' => (rok r hr').2) (by omega) (k2.up np) (b2.new np)
      exact (nnd.sublist (List.take_sublist _ _)).sublist rnm
/-! ### _law_stretch -/
theorem ord_deeds {ks : List Str} {cs : List (List Str)} (vh : VH ks cs) {d e : Deed} (hd : DeedOk ks cs d) (he : DeedOk ks cs e) : Ord1 d.dat e.dat := by
  have hs : ∀ x : Str, (PyData.str x) ≠ .none ∧ ∀ t, (PyData.str x) ≠ .tuple t := fun x => ⟨by simp, fun _ => by simp⟩
  cases d <;> cases e <;> refine ⟨_, _, _, _, rfl, rfl, rfl, (hs _).1, (hs _).2, fun z => ?_⟩
  · rfl
  · rw [eqv_str] at z; exact absurd (of_decide_eq_true z) (by decide)
  · rw [eqv_str] at z; exact absurd (of_decide_eq_true z) (by decide)
  · rename_i c1 c2
    have := DatumOrd.alike (Tup.mk c1) (Tup.mk c2)
    show PySem.W.alikeAll [_] [_] = true
    simp only [PySem.W.alikeAll, Bool.and_true]
    exact this
theorem lay_put : PyData.strOk "put" = true := by decide +kernel
theorem lay_call : PyData.strOk "call" = true := by decide +kernel
theorem lay_deeds {ks : List Str} {cs : List (List Str)} (vh : VH ks cs) : ∀ {ds : List Deed}, (∀ d ∈ ds, DeedOk ks cs d) → PyData.canLayAll0 (ds.map Datum.toD) = true
  | [], _ => rfl
  | d :: ds, h => by
    rw [List.map_cons, PyData.canLayAll0, lay_deeds vh fun e he => h e (by simp [he]), Bool.and_true]
    have hd := h d (by simp)
    show PyData.canLay0 d.dat = true
    cases d with
    | put k =>
      simp only [Deed.dat, PyData.canLay0, PyData.canLayAll0, lay_put, nm_ok (vh.nm k hd), Bool.and_true]
    | call c =>
      simp only [Deed.dat, PyData.canLay0, PyData.canLayAll0, lay_call, Bool.and_true, Bool.true_and]
      exact strs_lay fun x hx => nm_ok (vh.nm x (vh.mem hd hx))
def spStretch (K : PySem.W.Frag) : Sp := fun vs H Q _ => ∃ (b c : Addr) (hv : V) (ks : List Str) (cs : List (List Str)) (most : Nat), vs = [.ref b, hv, .int (most : Int)] ∧ Bg H b c ∧ Hd K (off H [b]) hv (hs ks cs) ∧ VH ks cs ∧ most ≤ 200 ∧
  ∀ v deeds H', Hd K (off H' [b]) v (Tup.mk deeds) → (∀ d ∈ deeds, DeedOk ks cs d) → deeds.length ≤ most → Kp [b] H H' → Bg H' b c → Q v H'
abbrev s_law_stretch : Stmt := topS 43
abbrev p_law_stretch : List Str := ["_law_bag_here", "_law_house_here", "_law_most"]
theorem sc_law_stretch : FnScope ["_law_bag_here", "_law_house_here", "_law_most", "_law_many", "_law_share", "_law_found", "_law_turn", "_law_is_put"] ["_law_bag_here", "_law_house_here", "_law_most"] (defScope s_law_stretch) := ⟨rfl, rfl, rfl, by decide +kernel, rfl, by decide +kernel, by decide +kernel⟩
theorem c_stretch (D : Def K mg "_law_stretch" s_law_stretch p_law_stretch) (B : Blt mg) (C_law_take : Cal P w K mg base "_law_take" p_law_take 2 spTake) (C_law_one : Cal P w K mg base "_law_one" p_law_one 2 (spOne K)) :
    Cal P w K mg base "_law_stretch" p_law_stretch 3 (spStretch K) := by
  refine D.cal sc_law_stretch (fun vs H Q E h => ?_) (fun f cdv A outer s H vs Q E hr h => ?_)
  · obtain ⟨b, c, hv, ks, cs, most, rfl, _⟩ := h; rfl
  · obtain ⟨b, c, hv, ks, cs, most, rfl, hb, hh, vh, hm, q⟩ := h
    refine ⟨_, (pss_cons (ps_par (i := 3) (j := 4) rfl sc_law_stretch.nd rfl rfl (by decide) rfl rfl (pa_cons (pe_cal C_law_take hr (pa_cons (pv 0) (pa_cons (pe_op op_add (pv 2) pe_int) pa_nil))) (pa_cons (pe_cal C_law_one hr (pa_cons (pv 0) (pa_cons (pe_lst (pa_cons pe_int (pa_cons pe_int (pa_cons pe_int (pa_cons pe_int (pa_cons pe_int pa_nil)))))) pa_nil))) pa_nil)) rfl)
  (pss_cons (ps_set (i := 5) sc_law_stretch.nd rfl (.inl rfl) (pe_lst pa_nil))
  (pss_cons (ps_for PassesOwn.never rfl (pi_range1 (by rfl) B.range (pa_cons (pv 3) pa_nil)) (pg_name (i := 6) sc_law_stretch.nd rfl (by first | exact .inl rfl | exact .inr rfl))
  (pss_cons (ps_set (i := 7) sc_law_stretch.nd rfl (.inl rfl) (pe_cmpR op_lt (pe_cal C_law_take hr (pa_cons (pv 0) (pa_cons pe_int pa_nil))) (pv 4) (nomark _)))
  (pss_one (ps_expr (k_bm K PySem.F.plainAttrs_list PySem.F.slot_list_append PySem.F.type_list_append mt_append (pv 5) (pa_cons (pe_ifExp (pt_val (pv 7)) (pe_tup (pa_cons pe_str (pa_cons (pe_cal C_law_one hr (pa_cons (pv 0) (pa_cons (pe_ix (k_ixT K) (pv 1) pe_int (fun _ _ => rfl)) pa_nil))) pa_nil))) (pe_tup (pa_cons pe_str (pa_cons (pe_cal C_law_one hr (pa_cons (pv 0) (pa_cons (pe_ix (k_ixT K) (pv 1) pe_int (fun _ _ => rfl)) pa_nil))) pa_nil)))) pa_nil))))))
  (pss_cons (ps_if (pt_cmpR op_eq (pe_cal C_law_take hr (pa_cons (pv 0) (pa_cons pe_int pa_nil))) pe_int (nomark _))
  (pss_one (ps_set (i := 5) sc_law_stretch.nd rfl (.inl rfl) (k_revL K (pe_callB (k_sortD K hr.units) (by rfl) B.sorted (by decide +kernel) (pa_cons (pv 5) pa_nil)))))
  pss_nil)
  (pss_by (fun D σ H1 => ∃ y3 y4 l y6 y7 acc deeds, σ = [some (.ref b), some hv, some (.int (most : Int)), y3, y4, some (.ref l), y6, y7] ∧ H1 l = some (.lst acc) ∧ HdAll K (off H1 [b]) acc deeds ∧ (∀ d ∈ deeds, DeedOk ks cs d) ∧ deeds.length ≤ most ∧ Kp [b] H H1 ∧ Bg H1 b c ∧ (∀ v H2, Hd K (off H2 [b]) v (Tup.mk deeds) → Kp [b] H H2 → Bg H2 b c → D.rt v H2))
  (pss_one (ps_ret (pe_callTy (k_tuple K) (by rfl) B.tuple (by decide +kernel) (pa_cons (pv 5) pa_nil)))) ?cut242))))), ?_⟩
    case cut242 =>
      rintro Dn σ H1 ⟨y3, y4, l, y6, y7, acc, deeds, rfl, el, hacc, dok, dl, k1, b1, q1⟩
      have al := all_len hacc
      refine ⟨.ref l, rfl, l, acc, rfl, .inl ⟨sql_of el, fun p np => ?_⟩⟩
      have pb := b1.ne np
      exact q1 (.ref p) _ (hd_tup (sqt_of (off_of (by simpa using pb) upd_same)) (DpAll.mono (off_new np) hacc)) (k1.up np) (b1.new np)
    obtain ⟨ha, x, y, rfl, hS, hx, hy⟩ := hd_house hh
    obtain ⟨ka, rfl, hka⟩ := hd_strT hx
    obtain ⟨ca, us, rfl, hca, hus⟩ := hd_tup_inv hy
    have ul : us.length = cs.length := by
      have := all_len hus
      rwa [List.length_map] at this
    have vk1 := vh.k1
    have vk6 := vh.k6
    have vc1 := vh.c1
    have vc8 := vh.c8
    refine ⟨.ref b, rfl, .int (most : Int), rfl, (most : Int), 1, rfl, rfl, b, c, (most : Int) + 1, rfl, hb, by omega, by omega, fun r H1 r0 r1 k1 b1 => ?_⟩
    obtain ⟨many, rfl⟩ : ∃ n : Nat, r = n := ⟨r.toNat, by omega⟩
    refine ⟨.ref b, rfl, len_ok (by simp), fun L nL => ?_⟩
    have Lb := b1.ne nL
    refine ⟨b, c, L, _, rfl, b1.new nL, .inl (sql_of (off_of (by simpa using Lb) upd_same)), by simp, by simp, fun i v H2 ev k2 b2 => ⟨_, _, rfl, ?_⟩⟩
    obtain ⟨sv, rfl⟩ : ∃ s : Int, v = .int s := by
      have := List.mem_of_getElem? ev
      simp at this
      rcases this with rfl | rfl | rfl | rfl <;> exact ⟨_, rfl⟩
    have k02 : Kp [b] H H2 := (k1.up nL).trans k2
    refine ⟨by decide, fun Dl nDl => ?_⟩
    have nD0 := b2.free k02 nDl
    have nb := b2.ne nDl
    have nc := b2.nec nDl
    refine ⟨.int (many : Int), rfl, (many : Int), rfl, by omega, by omega, ?_⟩
    rw [Int.toNat_natCast]
    refine for_it (walk_range (lo := 0) (n := many)) (fun i σ H3 => (∃ y6 y7, σ = [some (.ref b), some (.ref ha), some (.int (most : Int)), some (.int (many : Int)), some (.int sv), some (.ref Dl), y6, y7]) ∧ Kp [b] H H3 ∧ Bg H3 b c ∧
        ∃ deeds, Ls K [b] H3 Dl deeds ∧ deeds.length = i ∧ ∀ d ∈ deeds, DeedOk ks cs d)
      ⟨⟨none, none, rfl⟩, k02.up nDl, b2.new nDl, [], Ls.new rfl, rfl, by simp⟩ (fun _ _ _ _ _ => trivial) ?_ ?_
    · rintro i z σ H3' H3 hi ⟨⟨y6, y7, rfl⟩, k3, b3, deeds, ls, dl, dok⟩ ⟨rfl, rfl⟩
      refine ⟨.ref b, rfl, b, c, 6, rfl, b3, by decide, by decide, fun r H4 r0 r1 k4 b4 => ?_⟩
      refine ⟨.int sv, rfl, r, sv, rfl, rfl, ?_⟩
      have k04 := k3.trans k4
      have ls4 : Ls K [b] H4 Dl deeds := ls.kp k4 (by simpa using nb) (by simp)
      obtain ⟨acc4, e4, _⟩ := ls4
      refine ⟨.ref Dl, rfl, .inl ⟨rfl, _, sql_of e4⟩, .bl (decide (r < sv)), rfl, _, rfl, ite2 (fun _ => ?_) (fun _ => ?_)⟩
      · refine ⟨.ref b, rfl, .ref ha, rfl, ha, _, 0, .ref ka, rfl, rfl, off_sqt (Same.sqt k04.off' hS), atI_nat (j := 0) rfl, ?_⟩
        refine ⟨b, c, ka, ks.map V.str, rfl, b4, .inr (Same.sqt k04.off' hka), by simp; omega, by simp; omega, fun j v H5 ev k5 b5 => ?_⟩
        obtain ⟨k, hk, rfl⟩ := map_get ev
        have ls5 : Ls K [b] H5 Dl deeds := Ls.kp ⟨acc4, e4, by assumption⟩ k5 (by simpa using nb) (by simp)
        refine ⟨len_ok (by simp), fun p np => ?_⟩
        obtain ⟨acc5, e5, _⟩ := id ls5
        have pD := (ne_of_none e5 np).symm
        have pb := b5.ne np
        have ls6 : Ls K [b] (upd H5 p (.tup [.str "put", .str k])) Dl deeds := ls5.kp (T := []) (Kp.new np) (by simp) (by simp)
        obtain ⟨acc', e', l', ls7⟩ := ls6.push (d := Deed.put k) (Dp.tup (sqt_of (off_of (by simp [pD, pb]) upd_same)) (.cons (.str _) (.cons (.str _) .nil)))
        refine ⟨Dl, acc', _, rfl, rfl, e', small1000 (by omega), ⟨_, _, rfl⟩, ((k04.trans k5).up np).wf nD0, (b5.new np).wr nb nc, _, ls7, by simp [dl], fun d hd => ?_⟩
        rcases List.mem_append.mp hd with h | h
        · exact dok d h
        · rw [List.mem_singleton] at h
          subst h
          exact List.mem_of_getElem? hk
      · refine ⟨.ref b, rfl, .ref ha, rfl, ha, _, 1, .ref ca, rfl, rfl, off_sqt (Same.sqt k04.off' hS), atI_nat (j := 1) rfl, ?_⟩
        refine ⟨b, c, ca, us, rfl, b4, .inr (Same.sqt k04.off' hca), by omega, by omega, fun j v H5 ev k5 b5 => ?_⟩
        obtain ⟨tt, ht, hdv⟩ := all_get hus ev
        obtain ⟨cc, hcc, rfl⟩ := map_get ht
        have ls5 : Ls K [b] H5 Dl deeds := Ls.kp ⟨acc4, e4, by assumption⟩ k5 (by simpa using nb) (by simp)
        refine ⟨len_ok (by simp), fun p np => ?_⟩
        obtain ⟨acc5, e5, _⟩ := id ls5
        have pD := (ne_of_none e5 np).symm
        have pb := b5.ne np
        have ls6 : Ls K [b] (upd H5 p (.tup [.str "call", v])) Dl deeds := ls5.kp (T := []) (Kp.new np) (by simp) (by simp)
        have k06 : Kp [b] H (upd H5 p (.tup [.str "call", v])) := (k04.trans k5).up np
        obtain ⟨acc', e', l', ls7⟩ := ls6.push (d := Deed.call cc) (Dp.tup (sqt_of (off_of (by simp [pD, pb]) upd_same)) (.cons (.str _) (.cons (Dp.mono (off_far k06 nD0) hdv) .nil)))
        refine ⟨Dl, acc', _, rfl, rfl, e', small1000 (by omega), ⟨_, _, rfl⟩, k06.wf nD0, (b5.new np).wr nb nc, _, ls7, by simp [dl], fun d hd => ?_⟩
        rcases List.mem_append.mp hd with h | h
        · exact dok d h
        · rw [List.mem_singleton] at h
          subst h
          exact List.mem_of_getElem? hcc
    · rintro σ H3 ⟨⟨y6, y7, rfl⟩, k3, b3, deeds, ls, dl, dok⟩
      refine ⟨.ref b, rfl, b, c, 8, rfl, b3, by decide, by decide, fun r H4 r0 r1 k4 b4 => ?_⟩
      have k04 := k3.trans k4
      have ls4 : Ls K [b] H4 Dl deeds := ls.kp k4 (by simpa using nb) (by simp)
      obtain ⟨acc, e4, hacc⟩ := ls4.all
      have al := all_len hacc
      refine ⟨rfl, _, rfl, ite2 (fun _ => ?_) (fun _ => ?_)⟩
      · refine ⟨.ref Dl, rfl, off H4 [b], Dl, acc, deeds.map Datum.toD, rfl, off_le, .inl (sql_of e4), hacc, lay_deeds vh dok, .inr ?_, ?_, fun ys es p hp1 hp2 hpw hys np => ?_⟩
        · intro d h1 e h2
          obtain ⟨d', hd', rfl⟩ := List.mem_map.mp h1
          obtain ⟨e', he', rfl⟩ := List.mem_map.mp h2
          exact ord_deeds vh (dok d' hd') (dok e' he')
        · intro d h1
          obtain ⟨d', _, rfl⟩ := List.mem_map.mp h1
          exact Nat.le_trans (Datum.depth_le d') (by decide)
        · obtain ⟨deeds', pp, rfl⟩ := perm_map_ex (f := fun d : Deed => Datum.toD d) hp2 rfl
          have hys : HdAll K (off H4 [b]) ys deeds' := hys
          refine ⟨p, ys, rfl, sql_of upd_same, fun p2 np2 => ?_⟩
          have pb := b4.ne np
          have kp4 : Kp [b] H4 (upd (upd H4 p (.lst ys)) p2 (.lst ys.reverse)) := (Kp.new np).up np2
          refine ⟨_, _, p2, _, _, ys.reverse, deeds'.reverse, rfl, upd_same, DpAll.mono kp4.off' (all_rev hys), fun d hd => dok d (pp.mem_iff.mp (List.mem_reverse.mp hd)), ?_, k04.trans kp4, (b4.new np).new np2, fun v H5 hv k5 b5 => ?_⟩
          · rw [List.length_reverse, pp.length_eq]; omega
          · refine q v _ H5 hv (fun d hd => dok d (pp.mem_iff.mp (List.mem_reverse.mp hd))) ?_ k5 b5
            rw [List.length_reverse, pp.length_eq]; omega
      · exact ⟨_, _, Dl, _, _, acc, deeds, rfl, e4, hacc, dok, by omega, k04, b4, fun v H5 hv k5 b5 => q v deeds H5 hv dok (by omega) k5 b5⟩
end
end CB
set_option Elab.async false
set_option linter.all false
set_option maxRecDepth 100000
set_option maxHeartbeats 4000000
namespace CB
open PySem PySem.Spec
open PyProof.Rows L2
open PySem.W (Datum Tup DatumOrd)
section
variable {P : Program} {w : World} {K : PySem.W.Frag} {mg : Str → Option Value} {base : Heap} {C p0 p1 p2 p3 : Addr}
/-! ### _law_plain_log -/
def spPlain (K : PySem.W.Frag) : Sp := fun vs H Q _ => ∃ (b c : Addr) (hv : V) (ks : List Str) (cs : List (List Str)) (most : Nat), vs = [.ref b, hv, .int (most : Int)] ∧ Bg H b c ∧ Hd K (off H [b]) hv (hs ks cs) ∧ VH ks cs ∧ most ≤ 200 ∧
  ∀ v rows H', Hd K (off H' [b]) v (Tup.mk rows) → LogOk ks cs rows → (∀ r ∈ rows, r.plain = true) → Kp [b] H H' → Bg H' b c → Q v H'
abbrev s_law_plain_log : Stmt := topS 46
abbrev p_law_plain_log : List Str := ["_law_bag_here", "_law_house_here", "_law_most"]
theorem sc_law_plain_log : FnScope ["_law_bag_here", "_law_house_here", "_law_most"] ["_law_bag_here", "_law_house_here", "_law_most"] (defScope s_law_plain_log) := ⟨rfl, rfl, rfl, by decide +kernel, rfl, by decide +kernel, by decide +kernel⟩
theorem c_plain_log (D : Def K mg "_law_plain_log" s_law_plain_log p_law_plain_log) (C_law_log_of : Cal P w K mg base "_law_log_of" p_law_log_of 3 (spLogOf K)) (C_law_stretch : Cal P w K mg base "_law_stretch" p_law_stretch 3 (spStretch K)) :
    Cal P w K mg base "_law_plain_log" p_law_plain_log 4 (spPlain K) := by
  refine D.cal sc_law_plain_log (fun vs H Q E h => ?_) (fun f cdv A outer s H vs Q E hr h => ?_)
  · obtain ⟨b, c, hv, ks, cs, most, rfl, _⟩ := h; rfl
  · obtain ⟨b, c, hv, ks, cs, most, rfl, hb, hh, vh, hm, q⟩ := h
    refine ⟨_, (pss_one (ps_ret (pe_cal C_law_log_of hr (pa_cons (pv 0) (pa_cons (pe_cal C_law_stretch hr (pa_cons (pv 0) (pa_cons (pv 1) (pa_cons (pv 2) pa_nil)))) pa_nil))))), ?_⟩
    refine ⟨.ref b, rfl, .ref b, rfl, hv, rfl, .int (most : Int), rfl, b, c, hv, ks, cs, most, rfl, hb, hh, vh, hm, fun v deeds H1 h1 dok dl k1 b1 => ?_⟩
    exact ⟨b, c, v, ks, cs, deeds, rfl, b1, h1, dok, by omega, fun v2 rows H2 h2 ok pl _ k2 b2 => q v2 rows H2 h2 ok pl (k1.trans k2) b2⟩
/-! ### a row's first items -/
theorem row_test {σ : L2.St} {j : Nat} {z : V} {r : Row} {H : Hp} {Q : Bool → Hp → Prop} (hσ : σ[j]? = some (some z)) (h : Hd K H z r) (q : Q (r.name?.isSome) H) :
    tTest (tOp rEq (tOp (rIxT K) (tVar j) (tC (.int 0))) (tC (.str "put"))) σ H Q := by
  obtain ⟨ra, ys, rfl, hR, hx⟩ := row_inv h
  cases r with
  | put n k =>
    cases (show ys = [.str "put", .str n, .str k] from hx)
    refine ⟨.ref ra, hσ, ra, _, 0, .str "put", rfl, rfl, hR, atI_nat (j := 0) rfl, rfl, _, rfl, ?_⟩
    rw [show decide (V.str "put" = V.str "put") = true from decide_eq_true rfl]
    exact q
  | drop n =>
    cases (show ys = [.str "drop", .str n] from hx)
    refine ⟨.ref ra, hσ, ra, _, 0, .str "drop", rfl, rfl, hR, atI_nat (j := 0) rfl, rfl, _, rfl, ?_⟩
    rw [s_pd]
    exact q
  | call c =>
    obtain ⟨u, e, hu⟩ := (show ∃ u, ys = [.str "call", u] ∧ Hd K H u (Tup.mk c) from hx)
    cases e
    refine ⟨.ref ra, hσ, ra, _, 0, .str "call", rfl, rfl, hR, atI_nat (j := 0) rfl, rfl, _, rfl, ?_⟩
    rw [s_cp]
    exact q
theorem row_name {σ : L2.St} {j : Nat} {z : V} {n k : Str} {H : Hp} {Q : VK} (hσ : σ[j]? = some (some z)) (h : Hd K H z (Row.put n k)) (q : Q (.str n) H) :
    tOp (rIxT K) (tVar j) (tC (.int 1)) σ H Q := by
  obtain ⟨ra, ys, rfl, hR, hx⟩ := row_inv h
  cases (show ys = [.str "put", .str n, .str k] from hx)
  exact ⟨.ref ra, hσ, ra, _, 1, .str n, rfl, rfl, hR, atI_nat (j := 1) rfl, q⟩
theorem names_one {log : List Row} {i : Nat} {r : Row} (h : log[i]? = some r) (e : r.name? = none) : putNames (log.take (i + 1)) = putNames (log.take i) := by
  rw [names_take h, e]; exact List.append_nil _
theorem nm_nobody : Nm "nobody" := ⟨by decide, by decide, by decide +kernel⟩
/-! ### _law_log -/
def spLog (K : PySem.W.Frag) : Sp := fun vs H Q _ => ∃ (b c : Addr) (hv : V) (ks : List Str) (cs : List (List Str)) (most : Nat), vs = [.ref b, hv, .int (most : Int)] ∧ Bg H b c ∧ Hd K (off H [b]) hv (hs ks cs) ∧ VH ks cs ∧ most ≤ 200 ∧
  ∀ v rows H', Hd K (off H' [b]) v (Tup.mk rows) → LogOk ks cs rows → Kp [b] H H' → Bg H' b c → Q v H'
abbrev s_law_log : Stmt := topS 47
abbrev p_law_log : List Str := ["_law_bag_here", "_law_house_here", "_law_most"]
theorem sc_law_log : FnScope ["_law_bag_here", "_law_house_here", "_law_most", "_law_log_here", "_law_found", "_law_names", "_law_row", "_law_many", "_law_ahead", "_law_one_here", "_law_k"] ["_law_bag_here", "_law_house_here", "_law_most"] (defScope s_law_log) := ⟨rfl, rfl, rfl, by decide +kernel, rfl, by decide +kernel, by decide +kernel⟩
theorem c_log (D : Def K mg "_law_log" s_law_log p_law_log) (B : Blt mg) (C_law_plain_log : Cal P w K mg base "_law_plain_log" p_law_plain_log 4 (spPlain K)) (C_law_one : Cal P w K mg base "_law_one" p_law_one 4 (spOne K)) :
    Cal P w K mg base "_law_log" p_law_log 5 (spLog K) := by
  refine D.cal sc_law_log (fun vs H Q E h => ?_) (fun f cdv A outer s H vs Q E hr h => ?_)
  · obtain ⟨b, c, hv, ks, cs, most, rfl, _⟩ := h; rfl
  · obtain ⟨b, c, hv, ks, cs, most, rfl, hb, hh, vh, hm, q⟩ := h
    refine ⟨_, (pss_cons (ps_par (i := 3) (j := 4) rfl sc_law_log.nd rfl rfl (by decide) rfl rfl (pa_cons (pe_cal C_law_plain_log hr (pa_cons (pv 0) (pa_cons (pv 1) (pa_cons (pv 2) pa_nil)))) (pa_cons (pe_lst pa_nil) pa_nil)) rfl)
  (pss_cons (ps_set (i := 5) sc_law_log.nd rfl (.inr rfl) (pe_op op_cat (pe_lc rfl sc_law_log.nd (k_piT K (pv 3)) (blkOk_by (own := [("_law_row", 6)]) (by kernel_rfl)) (fun _ _ _ _ _ => (pg_name (i := 6) sc_law_log.nd rfl (by first | exact .inl rfl | exact .inr rfl))) (fun _ _ _ _ _ => (pts_one (pt_cmpR op_eq (pe_ix (k_ixT K) (pv 6) pe_int (fun _ _ => rfl)) pe_str (nomark _)))) (fun _ _ _ _ _ => (pe_ix (k_ixT K) (pv 6) pe_int (fun _ _ => rfl)))) (pe_lst (pa_cons pe_str pa_nil))))
  (pss_cons (ps_for PassesOwn.never rfl (k_piL K (pe_op op_cat (pe_callTy (k_list K) (by rfl) B.list (by decide +kernel) (pa_cons (pv 3) pa_nil)) (pe_lst (pa_cons pe_non pa_nil)))) (pg_name (i := 6) sc_law_log.nd rfl (by first | exact .inl rfl | exact .inr rfl))
  (pss_cons (ps_set (i := 7) sc_law_log.nd rfl (.inl rfl) (pe_cal C_law_one hr (pa_cons (pv 0) (pa_cons (pe_lst (pa_cons pe_int (pa_cons pe_int (pa_cons pe_int (pa_cons pe_int (pa_cons pe_int (pa_cons pe_int (pa_cons pe_int (pa_cons pe_int (pa_cons pe_int (pa_cons pe_int pa_nil))))))))))) pa_nil))))
  (pss_cons (ps_set (i := 8) sc_law_log.nd rfl (.inr rfl) (pe_lc rfl sc_law_log.nd (k_piL K (pv 4)) (blkOk_by (own := [("_law_one_here", 9)]) (by kernel_rfl)) (fun _ _ _ _ _ => (pg_name (i := 9) sc_law_log.nd rfl (by first | exact .inl rfl | exact .inr rfl))) (fun _ _ _ _ _ => (pts_one (pt_cmpR op_eq (pe_ix (k_ixT K) (pv 9) pe_int (fun _ _ => rfl)) pe_str (nomark _)))) (fun _ _ _ _ _ => (pe_ix (k_ixT K) (pv 9) pe_int (fun _ _ => rfl)))))
  (pss_cons (ps_expr (k_bm K PySem.F.plainAttrs_list PySem.F.slot_list_extend PySem.F.type_list_extend mt_extend (pv 4) (pa_cons (pe_lc rfl sc_law_log.nd (pi_range1 (by rfl) B.range (pa_cons (pv 7) pa_nil)) (blkOk_by (own := [("_law_k", 10)]) (by kernel_rfl)) (fun _ _ _ _ _ => (pg_name (i := 10) sc_law_log.nd rfl (by first | exact .inl rfl | exact .inr rfl))) (fun _ _ _ _ _ => pts_nil) (fun _ _ _ _ _ => (pe_tup (pa_cons pe_str (pa_cons (pe_cal C_law_one hr (pa_cons (pv 0) (pa_cons (pe_op op_cat (pe_op op_cat (pv 8) (pv 8)) (pv 5)) pa_nil))) pa_nil))))) pa_nil)))
  (pss_one (ps_if (pt_cmpR op_notN (pv 6) pe_non (nomark _))
  (pss_one (ps_expr (k_bm K PySem.F.plainAttrs_list PySem.F.slot_list_append PySem.F.type_list_append mt_append (pv 4) (pa_cons (pv 6) pa_nil))))
  pss_nil))))))
  (pss_one (ps_ret (pe_callTy (k_tuple K) (by rfl) B.tuple (by decide +kernel) (pa_cons (pe_slice (k_slL K) (pv 4) po_none (po_some (pv 2))) pa_nil))))))), ?_⟩
    refine ⟨.ref b, rfl, hv, rfl, .int (most : Int), rfl, b, c, hv, ks, cs, most, rfl, hb, hh, vh, hm, fun lv log H1 hlv ok pl k1 b1 => ?_⟩
    obtain ⟨la, xs, rfl, hla, hxs⟩ := hd_tup_inv hlv
    have xl : xs.length = log.length := all_len hxs
    have ol := ok.len
    refine ⟨by decide, fun Fd nF => ⟨_, _, rfl, ?_⟩⟩
    have Fb := b1.ne nF
    have Fc := b1.nec nF
    have s1 : Same H1 (upd H1 Fd (.lst [])) := same_new nF
    have eF : (upd H1 Fd (.lst [])) Fd = some (.lst []) := upd_same
    have b1' : Bg (upd H1 Fd (.lst [])) b c := b1.new nF
    revert s1 eF b1'
    generalize upd H1 Fd (.lst []) = H2
    intro s1 eF b2
    have hla2 : SqT K H2 la xs := Same.sqt s1 (off_sqt hla)
    -- names
    refine ⟨.ref la, rfl, la, rfl, ⟨_, hla2⟩, fun D1 nD1 => ?_⟩
    refine lc_it (walk_tup (xs := xs)) (fun i H3 => Same H2 H3 ∧ H3 D1 = some (.lst ((putNames (log.take i)).map V.str))) ⟨same_new nD1, upd_same⟩ (fun i H3 _ t => Same.sqt t.1 hla2) ?_ ?_
    · rintro i z H3' H3 hi ⟨s3, e3⟩ ⟨rfl, hz⟩
      obtain ⟨r, hr', hd⟩ := all_get hxs hz
      have hd3 : Hd K H3 z r := Dp.mono s3 (Dp.mono s1 (Dp.mono off_le hd))
      refine ⟨rfl, row_test (j := 6) rfl hd3 ?_⟩
      cases hn : r.name? with
      | none =>
        refine ifF rfl ⟨s3, ?_⟩
        rw [names_one hr' hn]; exact e3
      | some n =>
        refine ifT rfl ?_
        cases r with
        | put m k =>
          cases hn
          refine row_name (j := 6) rfl hd3 ⟨_, e3, small1000 ?_, fun b' o eb => ?_, ?_⟩
          · rw [List.length_map]
            have := names_len (log.take i)
            rw [List.length_take] at this
            omega
          · rw [upd_ne (ne_of_none eb nD1)]; exact s3 _ _ eb
          · rw [upd_same, names_take hr', List.map_append]; rfl
        | call _ => cases hn
        | drop _ => cases hn
    · rintro H3 ⟨s3, e3⟩
      rw [xl, List.take_length] at e3
      refine ⟨len_ok (by simp), fun D2 nD2 => ?_⟩
      have d12 := ne_of_none e3 nD2
      refine ⟨D1, D2, _, _, rfl, rfl, by rw [upd_ne d12]; exact e3, upd_same, ?_, fun NL nNL => ?_⟩
      · have h1 := names_len log
        have h2 : sizeLine = 16777216 := by decide
        simp only [List.length_map, List.length_cons, List.length_nil]
        omega
      have s4 : Same H2 (upd (upd H3 D2 (.lst [.str "nobody"])) NL (.lst ((putNames log).map V.str ++ [.str "nobody"]))) := s3.trans ((same_new nD2).trans (same_new nNL))
      have eN : (upd (upd H3 D2 (.lst [.str "nobody"])) NL (.lst ((putNames log).map V.str ++ [.str "nobody"]))) NL = some (.lst ((putNames log).map V.str ++ [.str "nobody"])) := upd_same
      have nNL1 : H2 NL = none := Same.free (s3.trans (same_new nD2)) nNL
      revert s4 eN
      generalize upd (upd H3 D2 (.lst [.str "nobody"])) NL (.lst ((putNames log).map V.str ++ [.str "nobody"])) = H4
      intro s4 eN
      -- list(log) + [None]
      refine ⟨.ref la, rfl, la, xs, rfl, .inr (Same.sqt s4 hla2), fun L0 nL0 => ?_⟩
      refine ⟨by decide, fun L1 nL1 => ?_⟩
      obtain ⟨l10, nL1'⟩ := up_none nL1
      refine ⟨L0, L1, xs, [.non], rfl, rfl, by rw [upd_ne l10.symm]; exact upd_same, upd_same, ?_, fun L nL => ?_⟩
      · have h2 : sizeLine = 16777216 := by decide
        simp only [List.length_cons, List.length_nil]
        omega
      have s5 : Same H4 (upd (upd (upd H4 L0 (.lst xs)) L1 (.lst [.non])) L (.lst (xs ++ [.non]))) := (same_new nL0).trans ((same_new nL1).trans (same_new nL))
      have eL : (upd (upd (upd H4 L0 (.lst xs)) L1 (.lst [.non])) L (.lst (xs ++ [.non]))) L = some (.lst (xs ++ [.non])) := upd_same
      have nL4 : H4 L = none := Same.free ((same_new nL0).trans (same_new nL1)) nL
      revert s5 eL
      generalize upd (upd (upd H4 L0 (.lst xs)) L1 (.lst [.non])) L (.lst (xs ++ [.non])) = H5
      intro s5 eL
      have s25 := s4.trans s5
      have b5 : Bg H5 b c := b2.kp (Kp.of_same (S := []) s25) (by simp) (by simp)
      have eF5 := s25 _ _ eF
      have eN5 := s5 _ _ eN
      have FN : Fd ≠ NL := ne_of_none eF nNL1
      have FL : Fd ≠ L := ne_of_none (s4 _ _ eF) nL4
      have NLL : NL ≠ L := ne_of_none eN nL4
      have nbN : NL ≠ b := by
        have := b2.ne nNL1
        exact this
      have nbL : L ≠ b := (b2.kp (Kp.of_same (S := []) s4) (by simp) (by simp)).ne nL4
      have k15 : Kp [b] H1 H5 := Kp.of_same (s1.trans s25)
      refine ⟨L, rfl, ⟨_, sql_of eL⟩, ?_⟩
      refine for_it (walk_list (xs := xs ++ [.non])) (fun i σ H6 => (∃ y6 y7 y8 y9 y10, σ = [some (.ref b), some hv, some (.int (most : Int)), some (.ref la), some (.ref Fd), some (.ref NL), y6, y7, y8, y9, y10]) ∧
          Kp [b] H1 H6 ∧ Bg H6 b c ∧ H6 NL = some (.lst ((putNames log).map V.str ++ [.str "nobody"])) ∧ H6 L = some (.lst (xs ++ [.non])) ∧
          ∃ rows, Ls K [b] H6 Fd rows ∧ rows.length ≤ 3 * i ∧ (∀ r ∈ rows, RowOk ks cs r) ∧ (putNames rows).Sublist (putNames (log.take i)))
        ⟨⟨_, _, _, _, _, rfl⟩, k15, b5, eN5, eL, [], ⟨[], eF5, .nil⟩, Nat.zero_le _, by simp, List.nil_sublist _⟩ ?_ ?_ ?_
      · rintro i σ H6 _ ⟨_, _, _, _, e, _⟩; exact sql_of e
      · rintro i z σ H6' H6 hi ⟨⟨y6, y7, y8, y9, y10, rfl⟩, k6, b6, eN6, eL6, rows, ls6, rl, rok, rnm⟩ ⟨rfl, hz⟩
        have hi' : i < log.length + 1 := by simpa [xl] using hi
        -- many
        refine ⟨.ref b, rfl, len_ok (by simp), fun L2' nL2 => ?_⟩
        have Lb := b6.ne nL2
        refine ⟨b, c, L2', _, rfl, b6.new nL2, .inl (sql_of (off_of (by simpa using Lb) upd_same)), by simp, by simp, fun j v H7 ev k7 b7 => ?_⟩
        obtain ⟨mv, hmv, rfl⟩ : ∃ m : Nat, m ≤ 2 ∧ v = .int (m : Int) := by
          have hall : ∀ x ∈ [V.int 0, V.int 0, V.int 1, V.int 0, V.int 0, V.int 0, V.int 2, V.int 0, V.int 0, V.int 1], ∃ m : Nat, m ≤ 2 ∧ x = .int (m : Int) := by
            simp only [List.forall_mem_cons]
            exact ⟨⟨0, by decide, rfl⟩, ⟨0, by decide, rfl⟩, ⟨1, by decide, rfl⟩, ⟨0, by decide, rfl⟩, ⟨0, by decide, rfl⟩, ⟨0, by decide, rfl⟩, ⟨2, by decide, rfl⟩, ⟨0, by decide, rfl⟩, ⟨0, by decide, rfl⟩, ⟨1, by decide, rfl⟩, fun _ h => nomatch h⟩
          exact hall v (List.mem_of_getElem? ev)
        have k67 : Kp [b] H6 H7 := (Kp.new nL2).trans k7
        have k17 := k6.trans k67
        have ls7 : Ls K [b] H7 Fd rows := ls6.kp k67 (by simpa using Fb) (by simp)
        have eN7 := k67 _ _ (by simpa using nbN) eN6
        have eL7 := k67 _ _ (by simpa using nbL) eL6
        have ls7' := ls7
        obtain ⟨acc, eF7, hacc⟩ := ls7
        have al := all_len hacc
        -- ahead
        refine ⟨.ref Fd, rfl, Fd, rfl, ⟨_, sql_of eF7⟩, fun AL nA => ?_⟩
        refine lc_it (walk_list (xs := acc)) (fun j H8 => Same H7 H8 ∧ H8 AL = some (.lst ((putNames (rows.take j)).map V.str))) ⟨same_new nA, upd_same⟩ (fun j H8 _ t => sql_of (t.1 _ _ eF7)) ?_ ?_
        · rintro j z H8' H8 hj ⟨s8, e8⟩ ⟨rfl, hz⟩
          obtain ⟨r, hr', hd⟩ := all_get hacc hz
          have hd3 : Hd K H8 z r := Dp.mono s8 (Dp.mono off_le hd)
          refine ⟨rfl, row_test (j := 9) rfl hd3 ?_⟩
          cases hn : r.name? with
          | none =>
            refine ifF rfl ⟨s8, ?_⟩
            rw [names_one hr' hn]; exact e8
          | some n =>
            refine ifT rfl ?_
            cases r with
            | put m k =>
              cases hn
              refine row_name (j := 9) rfl hd3 ⟨_, e8, small1000 ?_, fun b' o eb => ?_, ?_⟩
              · rw [List.length_map]
                have := names_len (rows.take j)
                rw [List.length_take] at this
                omega
              · rw [upd_ne (ne_of_none eb nA)]; exact s8 _ _ eb
              · rw [upd_same, names_take hr', List.map_append]; rfl
            | call _ => cases hn
            | drop _ => cases hn
        · rintro H8 ⟨s8, eA8⟩
          rw [List.take_of_length_le (by omega)] at eA8
          have k18 : Kp [b] H1 H8 := k17.trans (Kp.of_same s8)
          have b8 : Bg H8 b c := b7.kp (Kp.of_same (S := []) s8) (by simp) (by simp)
          have eF8 := s8 _ _ eF7
          have eN8 := s8 _ _ eN7
          have eL8 := s8 _ _ eL7
          have FA : Fd ≠ AL := ne_of_none eF7 nA
          have AN : NL ≠ AL := ne_of_none eN7 nA
          have Ab := b7.ne nA
          have ls8 : Ls K [b] H8 Fd rows := ls7'.kp (T := []) (Kp.of_same s8) (by simp) (by simp)
          -- the drops
          refine ⟨.ref Fd, rfl, .inl ⟨rfl, _, sql_of eF8⟩, ?_⟩
          refine ⟨.int (mv : Int), rfl, (mv : Int), rfl, by omega, by omega, fun EL nE => ?_⟩
          have FE : Fd ≠ EL := ne_of_none eF8 nE
          have Eb := b8.ne nE
          have nE1 : H1 EL = none := b8.free k18 nE
          rw [Int.toNat_natCast]
          refine lc_it (walk_range (lo := 0) (n := mv)) (fun j H9 => Kp [b] H8 H9 ∧ Bg H9 b c ∧ ∃ drops, Ls K [Fd, b] H9 EL drops ∧ drops.length = j ∧ ∀ r ∈ drops, ∃ n, r = Row.drop n ∧ Nm n)
            ⟨Kp.new nE, b8.new nE, [], Ls.new rfl, rfl, by simp⟩ (fun _ _ _ _ => trivial) ?_ ?_
          · rintro j z H9' H9 hj ⟨k9, b9, drops, ls9, dl, dok⟩ ⟨rfl, rfl⟩
            have eA9 := k9 _ _ (by simpa using Ab) eA8
            have eN9 := k9 _ _ (by simpa using nbN) eN8
            obtain ⟨bs, eE9, hbs⟩ := id ls9
            refine ⟨rfl, .ref b, rfl, .ref AL, rfl, .ref AL, rfl, AL, AL, _, _, rfl, rfl, eA9, eA9, ?_, fun C1 nC1 => ?_⟩
            · have h1 := names_len rows
              have h2 : sizeLine = 16777216 := by decide
              rw [List.length_map]
              omega
            have c1N := ne_of_none eN9 nC1
            refine ⟨.ref NL, rfl, C1, NL, _, _, rfl, rfl, upd_same, by rw [upd_ne c1N]; exact eN9, ?_, fun C2 nC2 => ?_⟩
            · have h1 := names_len rows
              have h3 := names_len log
              have h2 : sizeLine = 16777216 := by decide
              simp only [List.length_append, List.length_map, List.length_cons, List.length_nil]
              omega
            have b10 : Bg (upd H9 C1 (.lst ((putNames rows).map V.str ++ (putNames rows).map V.str))) b c := b9.new nC1
            have c2b := b10.ne nC2
            refine ⟨b, c, C2, _, rfl, b10.new nC2, .inl (sql_of (off_of (by simpa using c2b) upd_same)), by simp; omega, ?_, fun m v H11 ev k11 b11 => ?_⟩
            · have h1 := names_len rows
              have h3 := names_len log
              simp only [List.length_append, List.length_map, List.length_cons, List.length_nil]
              omega
            have kk : Kp [b] H9 H11 := ((Kp.new nC1).up nC2).trans k11
            obtain ⟨n, hn, rfl⟩ : ∃ n, Nm n ∧ v = .str n := by
              have hm := List.mem_of_getElem? ev
              have hlog : ∀ x ∈ putNames log, Nm x := by
                intro x hx
                obtain ⟨r, hr1, hr2⟩ := List.mem_filterMap.mp hx
                cases r with
                | put m k => cases hr2; exact ((ok.rows _ hr1).put _ _ rfl).1
                | call _ => cases hr2
                | drop _ => cases hr2
              have hrow : ∀ x ∈ putNames rows, Nm x := fun x hx => hlog x ((putNames_take log i).subset (rnm.subset hx))
              rcases List.mem_append.mp hm with h | h
              · rcases List.mem_append.mp h with h | h <;>
                · obtain ⟨x, hx, rfl⟩ := List.mem_map.mp h
                  exact ⟨x, hrow x hx, rfl⟩
              · rcases List.mem_append.mp h with h | h
                · obtain ⟨x, hx, rfl⟩ := List.mem_map.mp h
                  exact ⟨x, hlog x hx, rfl⟩
                · rw [List.mem_singleton] at h
                  exact ⟨_, nm_nobody, h⟩
            refine ⟨len_ok (by simp), fun p np => ?_⟩
            have ls11 : Ls K [Fd, b] H11 EL drops := ls9.kp kk (by simpa using Eb) (by simp)
            have ls12 : Ls K [Fd, b] (upd H11 p (.tup [.str "drop", .str n])) EL drops := ls11.kp (T := []) (Kp.new np) (by simp) (by simp)
            have eF11 := kk _ _ (by simpa using Fb) (k9 _ _ (by simpa using Fb) eF8)
            have pF := (ne_of_none eF11 np).symm
            have pb := b11.ne np
            obtain ⟨bs11, eE11, _⟩ := id ls11
            have pE := (ne_of_none eE11 np).symm
            obtain ⟨acc', e', l', ls13⟩ := ls12.push (d := Row.drop n) (row_drop (sqt_of (off_of (by simp [pF, pb, pE]) upd_same)))
            refine ⟨acc', e', small1000 (by omega), ?_, ?_, _, ls13, by simp [dl], fun r hr' => ?_⟩
            · exact (((k9.trans kk).up np).wf nE)
            · exact (b11.new np).wr Eb (b8.nec nE)
            · rcases List.mem_append.mp hr' with h | h
              · exact dok r h
              · rw [List.mem_singleton] at h
                exact ⟨n, h, hn⟩
          · rintro H9 ⟨k9, b9, drops, ls9, dl, dok⟩
            have ls9F : Ls K [b] H9 Fd rows := ls8.kp k9 (by simpa using Fb) (by simp)
            obtain ⟨accF, eF9, haccF⟩ := ls9F
            obtain ⟨bs, eE9, hbs⟩ := ls9
            have alF := all_len haccF
            have bl := all_len hbs
            have k19 := k18.trans k9
            have eN9 := k9 _ _ (by simpa using nbN) eN8
            have eL9 := k9 _ _ (by simpa using nbL) eL8
            refine ⟨Fd, EL, accF, bs, rfl, rfl, eF9, eE9, ?_, ?_⟩
            · have h2 : sizeLine = 16777216 := by decide
              omega
            generalize hG : upd H9 Fd (.lst (accF ++ bs)) = G
            have mG : Same (off H9 (Fd :: [b])) (off G (Fd :: [b])) := by rw [← hG]; exact off_wr (by simp)
            have lsG : Ls K [b] G Fd (rows ++ drops) := by
              refine ⟨accF ++ bs, by rw [← hG, upd_same], all_app (DpAll.mono mG haccF) (DpAll.mono (Same.trans (off_mono ?_) mG) hbs)⟩
              intro c hc
              simp at hc
              rcases hc with rfl | rfl <;> simp
            have kG : Kp [b] H1 G := by rw [← hG]; exact k19.wf nF
            have bG : Bg G b c := by rw [← hG]; exact b9.wr Fb Fc
            have eNG : G NL = some (.lst ((putNames log).map V.str ++ [.str "nobody"])) := by rw [← hG, upd_ne FN.symm]; exact eN9
            have eLG : G L = some (.lst (xs ++ [.non])) := by rw [← hG, upd_ne FL.symm]; exact eL9
            have pnD : ∀ ds : List Row, (∀ r ∈ ds, ∃ n, r = Row.drop n ∧ Nm n) → putNames ds = [] := by
              intro ds h
              unfold putNames
              rw [List.filterMap_eq_nil_iff]
              intro r hr'
              obtain ⟨n, rfl, _⟩ := h r hr'
              rfl
            have pnG : putNames (rows ++ drops) = putNames rows := by
              unfold putNames
              rw [List.filterMap_append]
              have := pnD drops dok
              unfold putNames at this
              rw [this, List.append_nil]
            have okG : ∀ r ∈ rows ++ drops, RowOk ks cs r := by
              intro r hr'
              rcases List.mem_append.mp hr' with h | h
              · exact rok r h
              · obtain ⟨n, rfl, hn⟩ := dok r h
                exact ⟨fun _ _ e => (by cases e), fun _ e => (by cases e), fun m e => (by cases e; exact hn)⟩
            refine ⟨z, rfl, rfl, _, rfl, ?_⟩
            by_cases hlast : i < log.length
            · rw [List.getElem?_append_left (by omega)] at hz
              obtain ⟨r, hr', hd⟩ := all_get hxs hz
              obtain ⟨ra, ys, rfl, _, _⟩ := row_inv hd
              refine ifT (by simp) ?_
              obtain ⟨accG, eFG, _⟩ := id lsG
              obtain ⟨acc', e', l', ls10⟩ := lsG.push (Dp.mono (off_far kG nF) hd)
              refine ⟨.ref Fd, rfl, .inl ⟨rfl, _, sql_of eFG⟩, .ref ra, rfl, Fd, acc', _, rfl, rfl, e', small1000 ?_, ⟨_, _, _, _, _, rfl⟩, kG.wf nF, bG.wr Fb Fc, ?_, ?_, _, ls10, ?_, ?_, ?_⟩
              · rw [l', List.length_append]; omega
              · rw [upd_ne FN.symm]; exact eNG
              · rw [upd_ne FL.symm]; exact eLG
              · rw [List.length_append, List.length_append, List.length_singleton]; omega
              · intro r' h
                rcases List.mem_append.mp h with h | h
                · exact okG r' h
                · rw [List.mem_singleton] at h
                  rw [h]; exact ok.row hr'
              · rw [putNames_snoc, pnG, names_take hr']
                exact rnm.append (List.Sublist.refl _)
            · have hil : i = log.length := by omega
              have hz2 : z = .non := by
                rw [List.getElem?_append_right (by omega)] at hz
                have h0 : i - xs.length = 0 := by omega
                rw [h0] at hz
                simp at hz
                exact hz.symm
              subst hz2
              refine ifF (by simp) ?_
              refine ⟨⟨_, _, _, _, _, rfl⟩, kG, bG, eNG, eLG, _, lsG, ?_, okG, ?_⟩
              · rw [List.length_append]; omega
              · rw [pnG, List.take_of_length_le (by omega)]
                rw [List.take_of_length_le (by omega)] at rnm
                exact rnm
      · rintro σ H6 ⟨⟨y6, y7, y8, y9, y10, rfl⟩, k6, b6, eN6, eL6, rows, ls6, rl, rok, rnm⟩
        obtain ⟨acc, eF6, hacc⟩ := ls6.all
        rw [List.length_append, List.length_singleton, List.take_of_length_le (by omega)] at rnm
        refine ⟨.ref Fd, rfl, .int (most : Int), rfl, (most : Int), rfl, Fd, acc, rfl, sql_of eF6, fun p np => ?_⟩
        rw [cutTo]
        refine ⟨p, _, rfl, .inl ⟨sql_of upd_same, fun p2 np2 => ?_⟩⟩
        have kp : Kp [b] H6 (upd (upd H6 p (.lst (acc.take most))) p2 (.tup (acc.take most))) := (Kp.new np).up np2
        have b7 := b6.new (p := p) (o := .lst (acc.take most)) np
        have p2b := b7.ne np2
        refine q (.ref p2) (rows.take most) _ (hd_tup (sqt_of (off_of (by simpa using p2b) upd_same)) (DpAll.mono kp.off' (all_take most hacc))) ⟨fun r hr' => rok r (List.mem_of_mem_take hr'), ?_, ?_⟩ (k1.trans (k6.trans kp)) (b7.new np2)
        · exact ok.nd.sublist ((putNames_take rows most).trans rnm)
        · rw [List.length_take]; omega
end
end CB
set_option Elab.async false
set_option linter.all false
set_option maxRecDepth 100000
set_option maxHeartbeats 4000000
namespace CB
open PySem PySem.Spec
open PyProof.Rows L2
open PySem.W (Datum Tup DatumOrd)
/-! ### calls of numbers -/
/-- c is a call over the kinds 0..m-1 -/
structure Ci (m : Nat) (c : List Int) : Prop where
  ne : c ≠ []
  asc : c.Pairwise (· < ·)
  rg : ∀ x ∈ c, 0 ≤ x ∧ x < m
structure FoundOk (m : Nat) (fs : List (List Int)) : Prop where
  ne : fs ≠ []
  ci : ∀ f ∈ fs, Ci m f
theorem asc_len {c : List Int} : ∀ (m : Nat) (lo : Int), c.Pairwise (· < ·) → (∀ x ∈ c, lo ≤ x ∧ x < lo + m) → c.length ≤ m := by
  induction c with
  | nil => intro m lo _ _; exact Nat.zero_le _
  | cons x r ih =>
    intro m lo h1 h2
    rw [List.pairwise_cons] at h1
    have hx := h2 x (by simp)
    obtain ⟨m', rfl⟩ : ∃ k, m = k + 1 := ⟨m - 1, by omega⟩
    have := ih m' (lo + 1) h1.2 fun y hy => by
      have a := h1.1 y hy
      have b := h2 y (by simp [hy])
      omega
    rw [List.length_cons]
    omega
theorem Ci.len {m : Nat} {c : List Int} (h : Ci m c) : c.length ≤ m := asc_len m 0 h.asc fun x hx => by have := h.rg x hx; omega
theorem ci_one {m : Nat} {r : Int} (h0 : 0 ≤ r) (h1 : r < m) : Ci m [r] := ⟨by simp, List.pairwise_singleton _ _, fun x hx => by rw [List.mem_singleton] at hx; rw [hx]; exact ⟨h0, h1⟩⟩
section
variable {P : Program} {w : World} {K : PySem.W.Frag} {mg : Str → Option Value} {base : Heap} {C p0 p1 p2 p3 : Addr}
/-! ### _law_any_calls -/
def spAny (K : PySem.W.Frag) : Sp := fun vs H Q _ => ∃ (b c : Addr) (m n : Nat), vs = [.ref b, .int (m : Int), .int (n : Int)] ∧ Bg H b c ∧ 1 ≤ m ∧ m ≤ 6 ∧ 1 ≤ n ∧ n ≤ 8 ∧
  ∀ p (fs : List (List Int)) H', H p = none → Ls K [b] H' p (fs.map Tup.mk) → FoundOk m fs → fs.length ≤ n → Kp [b] H H' → Bg H' b c → Q (.ref p) H'
abbrev s_law_any_calls : Stmt := topS 40
abbrev p_law_any_calls : List Str := ["_law_bag_here", "_law_many", "_law_calls"]
theorem sc_law_any_calls : FnScope ["_law_bag_here", "_law_many", "_law_calls", "_law_found", "_law_turn", "_law_call", "_law_kind"] ["_law_bag_here", "_law_many", "_law_calls"] (defScope s_law_any_calls) := ⟨rfl, rfl, rfl, by decide +kernel, rfl, by decide +kernel, by decide +kernel⟩
theorem c_any_calls (D : Def K mg "_law_any_calls" s_law_any_calls p_law_any_calls) (B : Blt mg) (C_law_take : Cal P w K mg base "_law_take" p_law_take 1 spTake) :
    Cal P w K mg base "_law_any_calls" p_law_any_calls 2 (spAny K) := by
  refine D.cal sc_law_any_calls (fun vs H Q E h => ?_) (fun f cdv A outer s H vs Q E hr h => ?_)
  · obtain ⟨b, c, m, n, rfl, _⟩ := h; rfl
  · obtain ⟨b, c, m, n, rfl, hb, m1, m6, n1, n8, q⟩ := h
    refine ⟨_, (pss_cons (ps_set (i := 3) sc_law_any_calls.nd rfl (.inl rfl) (pe_lst pa_nil))
  (pss_cons (ps_for PassesOwn.never rfl (pi_range1 (by rfl) B.range (pa_cons (pe_op op_add pe_int (pe_cal C_law_take hr (pa_cons (pv 0) (pa_cons (pv 2) pa_nil)))) pa_nil)) (pg_name (i := 4) sc_law_any_calls.nd rfl (by first | exact .inl rfl | exact .inr rfl))
  (pss_cons (ps_setLc (i := 5) rfl sc_law_any_calls.nd rfl rfl rfl (pi_range1 (by rfl) B.range (pa_cons (pv 1) pa_nil)) (blkOk_by (own := [("_law_kind", 6)]) (by kernel_rfl)) (fun _ _ _ _ _ => (pg_name (i := 6) sc_law_any_calls.nd rfl (by first | exact .inl rfl | exact .inr rfl))) (fun _ _ _ _ _ => (pts_one (pt_cmpR op_eq (pe_cal C_law_take hr (pa_cons (pv 0) (pa_cons pe_int pa_nil))) pe_int (nomark _)))) (fun _ _ _ _ _ => (pv 6)))
  (pss_one (ps_expr (k_bm K PySem.F.plainAttrs_list PySem.F.slot_list_append PySem.F.type_list_append mt_append (pv 3) (pa_cons (pe_callTy (k_tuple K) (by rfl) B.tuple (by decide +kernel) (pa_cons (pe_ifExp (pt_cmpR (k_neX K (List Int) hr.units) (pv 5) (pe_lst pa_nil) (nomark _)) (pv 5) (pe_lst (pa_cons (pe_cal C_law_take hr (pa_cons (pv 0) (pa_cons (pv 1) pa_nil))) pa_nil))) pa_nil)) pa_nil))))))
  (pss_one (ps_ret (pv 3))))), ?_⟩
    refine ⟨by decide, fun F nF => ?_⟩
    have Fb := hb.ne nF
    have Fc := hb.nec nF
    refine ⟨.ref b, rfl, .int (n : Int), rfl, b, c, (n : Int), rfl, hb.new nF, by omega, by omega, fun r H1 r0 r1 k1 b1 => ?_⟩
    obtain ⟨t, rfl⟩ : ∃ t : Nat, r = t := ⟨r.toNat, by omega⟩
    refine ⟨1, (t : Int), rfl, rfl, _, rfl, by omega, by omega, ?_⟩
    have e1 : ((1 : Int) + (t : Int)).toNat = t + 1 := by omega
    rw [e1]
    have k01 : Kp [b] H H1 := (Kp.new nF).trans k1
    have ls1 : Ls K [b] H1 F (([] : List (List Int)).map Tup.mk) := Ls.kp (H := upd H F (.lst [])) (Ls.new rfl) k1 (by simpa using Fb) (by simp)
    refine for_it (walk_range (lo := 0) (n := t + 1)) (fun i σ H2 => (∃ y4 y5 y6, σ = [some (.ref b), some (.int (m : Int)), some (.int (n : Int)), some (.ref F), y4, y5, y6]) ∧ Kp [b] H H2 ∧ Bg H2 b c ∧
      ∃ fs : List (List Int), Ls K [b] H2 F (fs.map Tup.mk) ∧ fs.length = i ∧ ∀ f ∈ fs, Ci m f) ⟨⟨none, none, none, rfl⟩, k01, b1, [], ls1, rfl, by simp⟩ (fun _ _ _ _ _ => trivial) ?_ ?_
    · rintro i z σ H2' H2 hi ⟨⟨y4, y5, y6, rfl⟩, k2, b2, fs, ls2, fl, fok⟩ ⟨rfl, rfl⟩
      refine ⟨.int (m : Int), rfl, (m : Int), rfl, by omega, by omega, fun L nL => ?_⟩
      have Lb := b2.ne nL
      have Lc := b2.nec nL
      rw [Int.toNat_natCast]
      obtain ⟨acc2, eF2, _⟩ := id ls2
      have FL : F ≠ L := ne_of_none eF2 nL
      refine lc_it (walk_range (lo := 0) (n := m)) (fun j H3 => Kp [b] H2 H3 ∧ Bg H3 b c ∧ ∃ cl : List Int, H3 L = some (.lst (cl.map V.int)) ∧ cl.Pairwise (· < ·) ∧ (∀ x ∈ cl, 0 ≤ x ∧ x < j) ∧ cl.length ≤ j)
        ⟨Kp.new nL, b2.new nL, [], upd_same, List.Pairwise.nil, by simp, Nat.zero_le _⟩ (fun _ _ _ _ => trivial) ?_ ?_
      · rintro j z H3' H3 hj ⟨k3, b3, cl, e3, asc, rg, cll⟩ ⟨rfl, rfl⟩
        refine ⟨rfl, .ref b, rfl, b, c, 2, rfl, b3, by decide, by decide, fun r H4 r0 r1 k4 b4 => ?_⟩
        have e4 := k4 _ _ (by simpa using Lb) e3
        refine ⟨rfl, _, rfl, ite2 (fun _ => ?_) (fun _ => ?_)⟩
        · refine ⟨_, rfl, _, e4, small1000 (by rw [List.length_map]; omega), (k3.trans k4).wf nL, b4.wr Lb Lc, cl ++ [0 + (j : Int)], by rw [upd_same, List.map_append]; rfl, ?_, ?_, by rw [List.length_append, List.length_singleton]; omega⟩
          · rw [List.pairwise_append]
            refine ⟨asc, List.pairwise_singleton _ _, fun x hx y hy => ?_⟩
            rw [List.mem_singleton] at hy
            have := rg x hx
            omega
          · intro x hx
            rcases List.mem_append.mp hx with h | h
            · have := rg x h; omega
            · rw [List.mem_singleton] at h; omega
        · exact ⟨k3.trans k4, b4, cl, e4, asc, fun x hx => by have := rg x hx; omega, by omega⟩
      · rintro H3 ⟨k3, b3, cl, e3, asc, rg, cll⟩
        have ls3 : Ls K [b] H3 F (fs.map Tup.mk) := ls2.kp k3 (by simpa using Fb) (by simp)
        obtain ⟨acc3, eF3, _⟩ := id ls3
        refine ⟨.ref F, rfl, .inl ⟨rfl, _, sql_of eF3⟩, .ref L, rfl, by decide, fun L2 nL2 => ?_⟩
        have LL2 : L ≠ L2 := ne_of_none e3 nL2
        have s4 : Same H3 (upd H3 L2 (.lst [])) := same_new nL2
        refine ⟨cl, [], hd_lst (sql_of (s4 _ _ e3)) (all_ints cl), hd_lst (sql_of upd_same) .nil, _, rfl, ?_⟩
        have ls4 : Ls K [b] (upd H3 L2 (.lst [])) F (fs.map Tup.mk) := ls3.kp (T := []) (Kp.new nL2) (by simp) (by simp)
        have b4 : Bg (upd H3 L2 (.lst [])) b c := b3.new nL2
        have e4 := s4 _ _ e3
        have k4 : Kp [b] H (upd H3 L2 (.lst [])) := (k2.trans k3).up nL2
        revert ls4 b4 e4 k4
        generalize upd H3 L2 (.lst []) = H4
        intro ls4 b4 e4 k4
        -- the call's tuple is appended
        have fin : ∀ (H5 : Hp) (p : Addr) (cl' : List Int), Kp [b] H H5 → Bg H5 b c → Ls K [b] H5 F (fs.map Tup.mk) → H5 p = none → Ci m cl' →
            ∃ acc, (upd H5 p (.tup (cl'.map V.int))) F = some (.lst acc) ∧ acc.length < sizeLine ∧ Kp [b] H (upd (upd H5 p (.tup (cl'.map V.int))) F (.lst (acc ++ [.ref p]))) ∧
              Bg (upd (upd H5 p (.tup (cl'.map V.int))) F (.lst (acc ++ [.ref p]))) b c ∧ ∃ fs : List (List Int), Ls K [b] (upd (upd H5 p (.tup (cl'.map V.int))) F (.lst (acc ++ [.ref p]))) F (fs.map Tup.mk) ∧ fs.length = i + 1 ∧ ∀ f ∈ fs, Ci m f := by
          intro H5 p cl' k5 b5 ls5 np ci
          have pb := b5.ne np
          obtain ⟨acc5, eF5, _⟩ := id ls5
          have pF := (ne_of_none eF5 np).symm
          have ls6 : Ls K [b] (upd H5 p (.tup (cl'.map V.int))) F (fs.map Tup.mk) := ls5.kp (T := []) (Kp.new np) (by simp) (by simp)
          obtain ⟨acc', e', l', ls7⟩ := ls6.push (d := Tup.mk cl') (hd_tup (sqt_of (off_of (by simp [pF, pb]) upd_same)) (all_ints cl'))
          refine ⟨acc', e', small1000 (by rw [l', List.length_map]; omega), (k5.up np).wf nF, (b5.new np).wr Fb Fc, fs ++ [cl'], by rw [List.map_append]; exact ls7, by simp [fl], fun f hf => ?_⟩
          rcases List.mem_append.mp hf with h | h
          · exact fok f h
          · rw [List.mem_singleton] at h
            rw [h]; exact ci
        cases hcl : cl with
        | nil =>
          refine ifF (by simp) ?_
          refine ⟨.ref b, rfl, .int (m : Int), rfl, b, c, (m : Int), rfl, b4, by omega, by omega, fun r H5 r0 r1 k5 b5 => ?_⟩
          refine ⟨len_ok (by simp), fun L3 nL3 => ?_⟩
          have ls5 : Ls K [b] H5 F (fs.map Tup.mk) := ls4.kp k5 (by simpa using Fb) (by simp)
          refine ⟨L3, [V.int r], rfl, .inl ⟨sql_of upd_same, fun p np => ?_⟩⟩
          obtain ⟨acc', e', l', g1, g2, fs', g3, g4, g5⟩ := fin (upd H5 L3 (.lst [.int r])) p [r] ((k4.trans k5).up nL3) (b5.new nL3) (ls5.kp (T := []) (Kp.new nL3) (by simp) (by simp)) np (ci_one r0 r1)
          exact ⟨F, acc', _, rfl, rfl, e', l', ⟨_, _, _, rfl⟩, g1, g2, fs', g3, g4, g5⟩
        | cons x0 xr =>
          refine ifT (by simp) ?_
          refine ⟨.ref L, rfl, L, cl.map V.int, rfl, .inl ⟨sql_of e4, fun p np => ?_⟩⟩
          obtain ⟨acc', e', l', g1, g2, fs', g3, g4, g5⟩ := fin H4 p cl k4 b4 ls4 np ⟨by rw [hcl]; simp, asc, rg⟩
          exact ⟨F, acc', _, rfl, rfl, e', l', ⟨_, _, _, rfl⟩, g1, g2, fs', g3, g4, g5⟩
    · rintro σ H2 ⟨⟨y4, y5, y6, rfl⟩, k2, b2, fs, ls2, fl, fok⟩
      refine ⟨.ref F, rfl, q F fs H2 nF ls2 ⟨?_, fok⟩ (by omega) k2 b2⟩
      intro z; rw [z] at fl; simp at fl
/-! ### _law_bent_call -/
def spBent (K : PySem.W.Frag) : Sp := fun vs H Q _ => ∃ (b c F : Addr) (m : Nat) (fs : List (List Int)), vs = [.ref b, .int (m : Int), .ref F] ∧ Bg H b c ∧ 1 ≤ m ∧ m ≤ 6 ∧ Ls K [b] H F (fs.map Tup.mk) ∧ F ≠ b ∧ FoundOk m fs ∧ fs.length ≤ 100 ∧
  ∀ p (fs' : List (List Int)) H', H p = none → Ls K [b] H' p (fs'.map Tup.mk) → FoundOk m fs' → fs'.length ≤ fs.length + 1 → Kp [b] H H' → Bg H' b c → Q (.ref p) H'
theorem sorted_asc {ns os : List Int} (h1 : ns.Perm os) (h2 : ns.Pairwise fun a b => DatumOrd.lt b a = false) (nd : os.Nodup) : ns.Pairwise (· < ·) := by
  have nd' := h1.nodup_iff.mpr nd
  rw [List.nodup_iff_pairwise_ne] at nd'
  refine (h2.and nd').imp fun {a b} h => ?_
  have h3 : decide (b < a) = false := h.1
  have := of_decide_eq_false h3
  have := h.2
  omega
theorem ints_sortable (xs : List Int) : PySem.W.Sortable (xs.map PyData.int) := .inr fun d h => by
  obtain ⟨x, _, rfl⟩ := List.mem_map.mp h
  exact ⟨by simp, fun _ => by simp⟩
theorem ints_lay : ∀ xs : List Int, PyData.canLayAll0 (xs.map PyData.int) = true
  | [] => rfl
  | x :: xs => by rw [List.map_cons, PyData.canLayAll0, ints_lay xs]; rfl
abbrev s_law_bent_call : Stmt := topS 39
abbrev p_law_bent_call : List Str := ["_law_bag_here", "_law_many", "_law_found"]
theorem sc_law_bent_call : FnScope ["_law_bag_here", "_law_many", "_law_found", "_law_call", "_law_kind", "_law_other", "_law_one_here"] ["_law_bag_here", "_law_many", "_law_found"] (defScope s_law_bent_call) := ⟨rfl, rfl, rfl, by decide +kernel, rfl, by decide +kernel, by decide +kernel⟩
theorem c_bent_call (D : Def K mg "_law_bent_call" s_law_bent_call p_law_bent_call) (B : Blt mg) (C_law_take : Cal P w K mg base "_law_take" p_law_take 2 spTake) (C_law_one : Cal P w K mg base "_law_one" p_law_one 2 (spOne K)) :
    Cal P w K mg base "_law_bent_call" p_law_bent_call 3 (spBent K) := by
  refine D.cal sc_law_bent_call (fun vs H Q E h => ?_) (fun f cdv A outer s H vs Q E hr h => ?_)
  · obtain ⟨b, c, F, m, fs, rfl, _⟩ := h; rfl
  · obtain ⟨b, c, F, m, fs, rfl, hb, m1, m6, ls, Fb, fok, fl, q⟩ := h
    refine ⟨_, (pss_cons (ps_asg (pe_tup (pa_cons (pe_cal C_law_one hr (pa_cons (pv 0) (pa_cons (pv 2) pa_nil))) (pa_cons (pe_cal C_law_take hr (pa_cons (pv 0) (pa_cons (pv 1) pa_nil))) pa_nil))) (k_tup K (n := 2) rfl (pgs_cons (pg_name (i := 3) sc_law_bent_call.nd rfl (by first | exact .inl rfl | exact .inr rfl)) (pgs_cons (pg_name (i := 4) sc_law_bent_call.nd rfl (by first | exact .inl rfl | exact .inr rfl)) pgs_nil))))
  (pss_cons (ps_set (i := 5) sc_law_bent_call.nd rfl (.inl rfl) (pe_ifExp (pt_cmpR (k_inX K Int hr.units) (pv 4) (pv 3) (by with_unfolding_all rfl)) (pe_lc rfl sc_law_bent_call.nd (k_piT K (pv 3)) (blkOk_by (own := [("_law_one_here", 6)]) (by kernel_rfl)) (fun _ _ _ _ _ => (pg_name (i := 6) sc_law_bent_call.nd rfl (by first | exact .inl rfl | exact .inr rfl))) (fun _ _ _ _ _ => (pts_one (pt_cmpR op_ne (pv 6) (pv 4) (nomark _)))) (fun _ _ _ _ _ => (pv 6))) (pe_op op_cat (pe_callTy (k_list K) (by rfl) B.list (by decide +kernel) (pa_cons (pv 3) pa_nil)) (pe_lst (pa_cons (pv 4) pa_nil)))))
  (pss_by (fun D σ H1 => ∃ y3 y6 kd ol, ∃ (os : List Int), σ = [some (.ref b), some (.int (m : Int)), some (.ref F), y3, some (.int kd), some (.ref ol), y6] ∧ H1 ol = some (.lst (os.map V.int)) ∧ os.Nodup ∧ (∀ x ∈ os, 0 ≤ x ∧ x < m) ∧ os.length ≤ 100 ∧ Kp [b] H H1 ∧ Bg H1 b c ∧ (∀ v H2, D.rt v H2 = Q v H2))
  (pss_one (ps_ret (pe_op op_cat (pe_op op_rep (pe_lst (pa_cons (pe_callTy (k_tuple K) (by rfl) B.tuple (by decide +kernel) (pa_cons (pe_callB (k_sortX K Int hr.units) (by rfl) B.sorted (by decide +kernel) (pa_cons (pv 5) pa_nil)) pa_nil)) pa_nil)) (pe_callTy call_int1 (by rfl) B.int (by decide +kernel) (pa_cons (pe_cmpR (k_neX K (List Int) hr.units) (pv 5) (pe_lst pa_nil) (nomark _)) pa_nil))) (pv 2)))) ?cut209))), ?_⟩
    case cut209 =>
      rintro Dn σ H1 ⟨y3, y6, kd, ol, os, rfl, eo, ond, org, ol100, k1, b1, hrt⟩
      refine ⟨.ref ol, rfl, H1, ol, _, os, rfl, Same.refl _, .inl (sql_of eo), all_ints os, ints_lay os, ints_sortable os, fun ys ns p1 hp hpw hys np1 => ?_⟩
      cases all_ints_inv hys
      have nsl := hp.length_eq
      refine ⟨p1, _, rfl, .inl ⟨sql_of upd_same, fun p2 np2 => ?_⟩⟩
      refine ⟨len_ok (by simp), fun p3 np3 => ?_⟩
      obtain ⟨n21, np2'⟩ := up_none np2
      obtain ⟨n32, np3'⟩ := up_none np3
      obtain ⟨n31, np3'⟩ := up_none np3'
      have o1 := ne_of_none eo np1
      have o2 := ne_of_none eo np2'
      have o3 := ne_of_none eo np3'
      generalize hG : upd (upd (upd H1 p1 (.lst (ns.map V.int))) p2 (.tup (ns.map V.int))) p3 (.lst [.ref p2]) = G
      have sG : Same H1 G := by
        rw [← hG]
        intro c o e
        have h1 := ne_of_none e np1
        have h2 := ne_of_none e np2'
        have h3 := ne_of_none e np3'
        simp [upd, h1, h2, h3, e]
      have g2 : G p2 = some (.tup (ns.map V.int)) := by rw [← hG]; simp [upd, n32.symm]
      have g3 : G p3 = some (.lst [.ref p2]) := by rw [← hG]; exact upd_same
      have go := sG _ _ eo
      refine ⟨.ref ol, rfl, by decide, fun L nL => ?_⟩
      have s4 : Same G (upd G L (.lst [])) := same_new nL
      refine ⟨os, [], hd_lst (sql_of (s4 _ _ go)) (all_ints os), hd_lst (sql_of upd_same) .nil, .inr ⟨_, rfl, ?_⟩⟩
      have g24 := s4 _ _ g2
      have g34 := s4 _ _ g3
      have k4 : Kp [b] H (upd G L (.lst [])) := (k1.trans (Kp.of_same sG)).up nL
      have bG : Bg G b c := b1.kp (Kp.of_same (S := []) sG) (by simp) (by simp)
      have b4 : Bg (upd G L (.lst [])) b c := bG.new nL
      have p2b : p2 ≠ b := by
        obtain ⟨⟨x, y, z, h1, _⟩, _⟩ := bG
        intro e
        rw [e, h1] at g2; cases g2
      revert k4 b4 g24 g34
      generalize upd G L (.lst []) = H4
      intro g24 g34 k4 b4
      refine ⟨p3, _, [.ref p2], rfl, rfl, g34, ?_, ?_, ?_, fun p4 np4 => ?_⟩
      · split <;> omega
      · split <;> omega
      · have h2 : sizeLine = 16777216 := by decide
        show ([V.ref p2].length) * _ ≤ _
        have h3 : ((if (!decide (os = [])) = true then 1 else 0 : Int)).toNat ≤ 1 := by split <;> decide
        have h4 : [V.ref p2].length = 1 := rfl
        rw [h4, Nat.one_mul]
        exact Nat.le_trans h3 (by omega)
      have ls4 : Ls K [b] H4 F (fs.map Tup.mk) := ls.kp k4 (by simpa using Fb) (by simp)
      obtain ⟨acc, eF, hacc⟩ := id ls4
      have al := all_len hacc
      have F4 := ne_of_none eF np4
      have s5 : ∀ o, Same H4 (upd H4 p4 o) := fun o => same_new np4
      refine ⟨.ref F, rfl, p4, F, _, acc, rfl, rfl, upd_same, by rw [upd_ne F4]; exact eF, ?_, fun p5 np5 => ?_⟩
      · have h2 : sizeLine = 16777216 := by decide
        rw [List.length_map] at al
        cases (!decide (os = [])) <;> simp <;> omega
      obtain ⟨n54, np5'⟩ := up_none np5
      have p5b := b4.ne np5'
      have F5 := ne_of_none eF np5'
      have p25 := ne_of_none g24 np5'
      have k5 : ∀ o o', Kp [b] H (upd (upd H4 p4 o) p5 o') := fun o o' => (k4.up np4).trans (Kp.new (by rw [upd_ne n54]; exact np5'))
      have m5 : ∀ o o', Same (off H4 (F :: [b])) (off (upd (upd H4 p4 o) p5 o') (p5 :: [b])) := by
        intro o o' c u e
        obtain ⟨n1, e1⟩ := off_some e
        simp at n1
        have h1 := ne_of_none e1 np4
        have h2 := ne_of_none e1 np5'
        exact off_of (by simp [h2, n1]) (by rw [upd_ne h2, upd_ne h1]; exact e1)
      have nH5 : H p5 = none := b4.free k4 np5'
      rw [hrt]
      by_cases hos : os = []
      · have e0 : (List.replicate (((if (!decide (os = [])) = true then 1 else 0 : Int)).toNat) [V.ref p2]).flatten = [] := by simp [hos]
        show Q (.ref p5) (upd (upd H4 p4 (.lst (List.replicate (((if (!decide (os = [])) = true then 1 else 0 : Int)).toNat) [V.ref p2]).flatten)) p5 (.lst ((List.replicate (((if (!decide (os = [])) = true then 1 else 0 : Int)).toNat) [V.ref p2]).flatten ++ acc)))
        rw [e0, List.nil_append]
        exact q p5 fs _ nH5 ⟨acc, upd_same, DpAll.mono (m5 _ _) hacc⟩ fok (by omega) (k5 _ _) ((b4.new np4).new (by rw [upd_ne n54]; exact np5'))
      · have e0 : (List.replicate (((if (!decide (os = [])) = true then 1 else 0 : Int)).toNat) [V.ref p2]).flatten = [V.ref p2] := by simp [hos]
        show Q (.ref p5) (upd (upd H4 p4 (.lst (List.replicate (((if (!decide (os = [])) = true then 1 else 0 : Int)).toNat) [V.ref p2]).flatten)) p5 (.lst ((List.replicate (((if (!decide (os = [])) = true then 1 else 0 : Int)).toNat) [V.ref p2]).flatten ++ acc)))
        rw [e0]
        have ci : Ci m ns := by
          refine ⟨?_, sorted_asc hp hpw ond, fun x hx => org x (hp.mem_iff.mp hx)⟩
          intro z
          rw [z] at nsl
          exact hos (List.length_eq_zero_iff.mp nsl.symm)
        have p24 := ne_of_none g24 np4
        refine q p5 (ns :: fs) _ nH5 ⟨.ref p2 :: acc, upd_same, .cons (hd_tup (sqt_of (off_of (by simp [p25, p2b]) (by rw [upd_ne p25, upd_ne p24]; exact g24))) (all_ints ns)) (DpAll.mono (m5 _ _) hacc)⟩ ⟨by simp, fun f hf => ?_⟩ (by simp) (k5 _ _) ((b4.new np4).new (by rw [upd_ne n54]; exact np5'))
        rcases List.mem_cons.mp hf with h | h
        · rw [h]; exact ci
        · exact fok.ci f h
    -- call, kind
    obtain ⟨acc, eF, hacc⟩ := ls.all
    have al : acc.length = fs.length := by
      have := all_len hacc
      rwa [List.length_map] at this
    have fpos : 0 < fs.length := List.length_pos_iff.mpr fok.ne
    refine ⟨.ref b, rfl, .ref F, rfl, b, c, F, acc, rfl, hb, .inl (sql_of (off_of (by simpa using Fb) eF)), by omega, by omega, fun i v H1 ev k1 b1 => ?_⟩
    obtain ⟨tt, ht, hd⟩ := all_get hacc ev
    obtain ⟨ff, hff, rfl⟩ := map_get ht
    have ci := fok.ci ff (List.mem_of_getElem? hff)
    have cl := ci.len
    refine ⟨.ref b, rfl, .int (m : Int), rfl, b, c, (m : Int), rfl, b1, by omega, by omega, fun r H2 r0 r1 k2 b2 => ?_⟩
    refine ⟨len_ok (by simp), fun p np => ?_⟩
    have k12 : Kp [b] H (upd H2 p (.tup [v, .int r])) := (k1.trans k2).up np
    have b3 : Bg (upd H2 p (.tup [v, .int r])) b c := b2.new np
    refine ⟨p, _, rfl, sqt_new, rfl, v, _, rfl, .int r, [], rfl, rfl, ?_⟩
    revert k12 b3
    generalize upd H2 p (.tup [v, .int r]) = H3
    intro k3 b3
    have hd3 : Hd K (off H3 [b]) v (Tup.mk ff) := Dp.mono k3.off' hd
    obtain ⟨va, rfl, hva⟩ := hd_intT hd3
    have hva' : SqT K H3 va (ff.map V.int) := off_sqt hva
    refine ⟨.int r, rfl, .ref va, rfl, r, ff, hd_int r, .inr (Dp.mono off_le hd3), _, rfl, ite2 (fun hm => ?_) (fun hm => ?_)⟩
    · refine ⟨.ref va, rfl, va, rfl, ⟨_, hva'⟩, fun L nL => ?_⟩
      refine lc_it (walk_tup (xs := ff.map V.int)) (fun j H4 => Same H3 H4 ∧ H4 L = some (.lst (((ff.take j).filter fun x => !decide (x = r)).map V.int))) ⟨same_new nL, upd_same⟩ (fun j H4 _ t => Same.sqt t.1 hva') ?_ ?_
      · rintro j z H4' H4 hj ⟨s4, e4⟩ ⟨rfl, hz⟩
        obtain ⟨x, hx, rfl⟩ := map_get hz
        refine ⟨rfl, .int x, rfl, .int r, rfl, rfl, _, rfl, ?_⟩
        by_cases he : x = r
        · refine ifF (by simp [he]) ⟨s4, ?_⟩
          rw [e4, List.take_add_one, hx]
          simp [he]
        · refine ifT (by simp [he]) ⟨.int x, rfl, _, e4, small1000 ?_, fun b' o eb => ?_, ?_⟩
          · rw [List.length_map]
            have h1 := List.length_filter_le (fun x => !decide (x = r)) (ff.take j)
            rw [List.length_take] at h1
            omega
          · rw [upd_ne (ne_of_none eb nL)]; exact s4 _ _ eb
          · rw [upd_same, List.take_add_one, hx]
            simp [he]
      · rintro H4 ⟨s4, e4⟩
        rw [List.length_map, List.take_length] at e4
        refine ⟨_, _, r, L, _, rfl, e4, ?_, ?_, ?_, k3.trans (Kp.of_same s4), b3.kp (Kp.of_same (S := []) s4) (by simp) (by simp), fun _ _ => rfl⟩
        · refine List.Nodup.sublist List.filter_sublist ?_
          rw [List.nodup_iff_pairwise_ne]
          exact ci.asc.imp fun h => by omega
        · intro x hx
          exact ci.rg x (List.mem_filter.mp hx).1
        · have h1 := List.length_filter_le (fun x => !decide (x = r)) ff
          omega
    · refine ⟨.ref va, rfl, va, _, rfl, .inr hva', fun L nL => ?_⟩
      refine ⟨.int r, rfl, len_ok (by simp), fun L2 nL2 => ?_⟩
      have LL2 := ne_of_none (show (upd H3 L (.lst (ff.map V.int))) L = _ from upd_same) nL2
      refine ⟨L, L2, _, _, rfl, rfl, by rw [upd_ne LL2]; exact upd_same, upd_same, ?_, fun L3 nL3 => ?_⟩
      · have h2 : sizeLine = 16777216 := by decide
        simp; omega
      have s5 : Same H3 (upd (upd (upd H3 L (.lst (ff.map V.int))) L2 (.lst [.int r])) L3 (.lst (ff.map V.int ++ [.int r]))) := (same_new nL).trans ((same_new nL2).trans (same_new nL3))
      refine ⟨_, _, r, L3, ff ++ [r], rfl, by rw [upd_same, List.map_append]; rfl, ?_, ?_, ?_, k3.trans (Kp.of_same s5), b3.kp (Kp.of_same (S := []) s5) (by simp) (by simp), fun _ _ => rfl⟩
      · have hn : r ∉ ff := fun z => hm (decide_eq_true z)
        refine nd_snoc ?_ hn
        rw [List.nodup_iff_pairwise_ne]
        exact ci.asc.imp fun h => by omega
      · intro x hx
        rcases List.mem_append.mp hx with h | h
        · exact ci.rg x h
        · rw [List.mem_singleton] at h
          rw [h]; exact ⟨r0, r1⟩
      · rw [List.length_append, List.length_singleton]; omega
end
end CB
set_option Elab.async false
set_option linter.all false
set_option maxRecDepth 100000
set_option maxHeartbeats 4000000
namespace CB
open PySem PySem.Spec
open PyProof.Rows L2
open PySem.W (Datum Tup DatumOrd)
section
variable {P : Program} {w : World} {K : PySem.W.Frag} {mg : Str → Option Value} {base : Heap} {C p0 p1 p2 p3 : Addr}
def IntIn (m : Nat) (v : V) : Prop := ∃ x : Int, v = .int x ∧ 0 ≤ x ∧ x < m
/-- what is behind each kind: nothing, or a later kind -/
def BhOk (m : Nat) (bs : List V) : Prop := ∀ (i : Nat) v, bs[i]? = some v → v = .non ∨ ∃ x : Int, v = .int x ∧ (i : Int) < x ∧ x < m
theorem BhOk.flat {m : Nat} {bs : List V} (h : BhOk m bs) : bs.all flatV = true := by
  rw [List.all_eq_true]
  intro v hv
  obtain ⟨i, hi⟩ := List.mem_iff_getElem?.mp hv
  rcases h i v hi with rfl | ⟨x, rfl, _⟩ <;> rfl
theorem BhOk.zero {m : Nat} {bs : List V} (h : BhOk m bs) : inV (.int 0) bs = false := by
  unfold inV
  rw [List.any_eq_false]
  intro v hv
  obtain ⟨i, hi⟩ := List.mem_iff_getElem?.mp hv
  rcases h i v hi with rfl | ⟨x, rfl, h1, _⟩
  · simp [eqV]
  · simp [eqV]; omega
theorem cut_mem {xs : List V} {lo hi : Option Int} {v : V} (h : v ∈ cutV xs lo hi) : v ∈ xs := by
  unfold cutV at h
  exact List.mem_of_mem_drop (List.mem_of_mem_take h)
def spPaths (K : PySem.W.Frag) : Sp := fun vs H Q _ => ∃ (b c : Addr) (m n : Nat), vs = [.ref b, .int (m : Int), .int (n : Int)] ∧ Bg H b c ∧ 1 ≤ m ∧ m ≤ 6 ∧ 1 ≤ n ∧ n ≤ 8 ∧
  ∀ p (fs : List (List Int)) H', H p = none → Ls K [b] H' p (fs.map Tup.mk) → FoundOk m fs → fs.length ≤ n → Kp [b] H H' → Bg H' b c → Q (.ref p) H'
abbrev s_law_paths : Stmt := topS 38
abbrev p_law_paths : List Str := ["_law_bag_here", "_law_many", "_law_calls"]
theorem sc_law_paths : FnScope ["_law_bag_here", "_law_many", "_law_calls", "_law_behind", "_law_heads", "_law_found", "_law_head", "_law_call", "_law_kind"] ["_law_bag_here", "_law_many", "_law_calls"] (defScope s_law_paths) := ⟨rfl, rfl, rfl, by decide +kernel, rfl, by decide +kernel, by decide +kernel⟩
theorem c_paths (D : Def K mg "_law_paths" s_law_paths p_law_paths) (B : Blt mg) (C_law_one : Cal P w K mg base "_law_one" p_law_one 2 (spOne K)) (C_law_mixed : Cal P w K mg base "_law_mixed" p_law_mixed 2 (spMixed K)) :
    Cal P w K mg base "_law_paths" p_law_paths 3 (spPaths K) := by
  refine D.cal sc_law_paths (fun vs H Q E h => ?_) (fun f cdv A outer s H vs Q E hr h => ?_)
  · obtain ⟨b, c, m, n, rfl, _⟩ := h; rfl
  · obtain ⟨b, c, m, n, rfl, hb, m1, m6, n1, n8, q⟩ := h
    refine ⟨_, (pss_cons (ps_set (i := 3) sc_law_paths.nd rfl (.inr rfl) (pe_lc rfl sc_law_paths.nd (pi_range1 (by rfl) B.range (pa_cons (pv 1) pa_nil)) (blkOk_by (own := [("_law_kind", 8)]) (by kernel_rfl)) (fun _ _ _ _ _ => (pg_name (i := 8) sc_law_paths.nd rfl (by first | exact .inl rfl | exact .inr rfl))) (fun _ _ _ _ _ => pts_nil) (fun _ _ _ _ _ => (pe_cal C_law_one hr (pa_cons (pv 0) (pa_cons (pe_op op_cat (pe_listRg rfl (by rfl) B.list (prg_2 (by rfl) B.range (pe_op op_add (pv 8) pe_int) (pv 1))) (pe_lst (pa_cons pe_non pa_nil))) pa_nil))))))
  (pss_cons (ps_setLc (i := 4) rfl sc_law_paths.nd rfl rfl rfl (pi_range1 (by rfl) B.range (pa_cons (pv 1) pa_nil)) (blkOk_by (own := [("_law_kind", 8)]) (by kernel_rfl)) (fun _ _ _ _ _ => (pg_name (i := 8) sc_law_paths.nd rfl (by first | exact .inl rfl | exact .inr rfl))) (fun _ _ _ _ _ => (pts_one (pt_cmpR (k_notInSeq K) (pv 8) (pv 3) (by with_unfolding_all rfl)))) (fun _ _ _ _ _ => (pv 8)))
  (pss_cons (ps_set (i := 4) sc_law_paths.nd rfl (.inl rfl) (pe_op op_cat (pv 4) (pe_slice (k_slL K) (pe_cal C_law_mixed hr (pa_cons (pv 0) (pa_cons (pe_lc rfl sc_law_paths.nd (pi_range1 (by rfl) B.range (pa_cons (pv 1) pa_nil)) (blkOk_by (own := [("_law_kind", 8)]) (by kernel_rfl)) (fun _ _ _ _ _ => (pg_name (i := 8) sc_law_paths.nd rfl (by first | exact .inl rfl | exact .inr rfl))) (fun _ _ _ _ _ => (pts_one (pt_cmpR (k_inSeq K) (pv 8) (pv 3) (by with_unfolding_all rfl)))) (fun _ _ _ _ _ => (pv 8))) pa_nil))) po_none (po_some (pe_cal C_law_one hr (pa_cons (pv 0) (pa_cons (pe_lst (pa_cons pe_int (pa_cons pe_int (pa_cons pe_int (pa_cons pe_int pa_nil))))) pa_nil)))))))
  (pss_cons (ps_set (i := 5) sc_law_paths.nd rfl (.inl rfl) (pe_lst pa_nil))
  (pss_cons (ps_for PassesOwn.never rfl (k_piL K (pe_slice (k_slL K) (pv 4) po_none (po_some (pv 2)))) (pg_name (i := 6) sc_law_paths.nd rfl (by first | exact .inl rfl | exact .inr rfl))
  (pss_cons (ps_set (i := 7) sc_law_paths.nd rfl (.inl rfl) (pe_lst (pa_cons (pv 6) pa_nil)))
  (pss_cons (ps_while PassesOwn.never (pt_cmpR op_notN (pe_ix (k_ixL K) (pv 3) (pe_ix (k_ixL K) (pv 7) (pe_un un_neg pe_int) (fun _ _ => rfl)) (fun _ _ => rfl)) pe_non (nomark _))
  (pss_one (ps_expr (k_bm K PySem.F.plainAttrs_list PySem.F.slot_list_append PySem.F.type_list_append mt_append (pv 7) (pa_cons (pe_ix (k_ixL K) (pv 3) (pe_ix (k_ixL K) (pv 7) (pe_un un_neg pe_int) (fun _ _ => rfl)) (fun _ _ => rfl)) pa_nil)))))
  (pss_one (ps_expr (k_bm K PySem.F.plainAttrs_list PySem.F.slot_list_append PySem.F.type_list_append mt_append (pv 5) (pa_cons (pe_callTy (k_tuple K) (by rfl) B.tuple (by decide +kernel) (pa_cons (pv 7) pa_nil)) pa_nil)))))))
  (pss_one (ps_ret (pv 5)))))))), ?_⟩
    have hz : sizeLine = 16777216 := by decide
    -- behind
    refine ⟨.int (m : Int), rfl, (m : Int), rfl, by omega, by omega, fun BL nB => ?_⟩
    have Bb := hb.ne nB
    have Bc := hb.nec nB
    rw [Int.toNat_natCast]
    refine lc_it (walk_range (lo := 0) (n := m)) (fun j H1 => Kp [b] H H1 ∧ Bg H1 b c ∧ ∃ bs, H1 BL = some (.lst bs) ∧ bs.length = j ∧ BhOk m bs) ⟨Kp.new nB, hb.new nB, [], upd_same, rfl, fun i v h => by simp at h⟩ (fun _ _ _ _ => trivial) ?_ ?_
    · rintro j z H1' H1 hj ⟨k1, b1, bs, e1, bl, bok⟩ ⟨rfl, rfl⟩
      refine ⟨rfl, .ref b, rfl, .int (0 + (j : Int)), rfl, _, 1, rfl, rfl, .int (m : Int), rfl, _, (m : Int), rfl, rfl, RgOk.of_le (by omega) (by omega) (by omega) (by omega), fun L1 nL1 => ?_⟩
      refine ⟨len_ok (by simp), fun L2 nL2 => ?_⟩
      have L12 := ne_of_none (show (upd H1 L1 (.lst (rgV (0 + (j : Int) + 1) m))) L1 = _ from upd_same) nL2
      refine ⟨L1, L2, _, _, rfl, rfl, by rw [upd_ne L12]; exact upd_same, upd_same, ?_, fun L3 nL3 => ?_⟩
      · rw [rgV_length]
        simp only [List.length_cons, List.length_nil]
        omega
      have k3 : Kp [b] H1 (upd (upd (upd H1 L1 (.lst (rgV (0 + (j : Int) + 1) m))) L2 (.lst [.non])) L3 (.lst (rgV (0 + (j : Int) + 1) m ++ [.non]))) := ((Kp.new nL1).up nL2).up nL3
      have b3 : Bg (upd (upd H1 L1 (.lst (rgV (0 + (j : Int) + 1) m))) L2 (.lst [.non])) b c := (b1.new nL1).new nL2
      have L3b := b3.ne nL3
      refine ⟨b, c, L3, _, rfl, b3.new nL3, .inl (sql_of (off_of (by simpa using L3b) upd_same)), by simp, ?_, fun i v H4 ev k4 b4 => ?_⟩
      · rw [List.length_append, rgV_length]
        simp only [List.length_cons, List.length_nil]
        omega
      have e4 := (k3.trans k4) _ _ (by simpa using Bb) e1
      have hv : v = .non ∨ ∃ x : Int, v = .int x ∧ (j : Int) < x ∧ x < m := by
        rcases List.mem_append.mp (List.mem_of_getElem? ev) with h | h
        · unfold rgV at h
          obtain ⟨t, ht, rfl⟩ := List.mem_map.mp h
          have := List.mem_range.mp ht
          exact .inr ⟨_, rfl, by omega, by omega⟩
        · rw [List.mem_singleton] at h
          exact .inl h
      refine ⟨bs, e4, small1000 (by omega), (k1.trans (k3.trans k4)).wf nB, b4.wr Bb Bc, bs ++ [v], upd_same, by simp [bl], fun i v' h => ?_⟩
      by_cases hi : i < bs.length
      · rw [List.getElem?_append_left hi] at h
        exact bok i v' h
      · rw [List.getElem?_append_right (by omega)] at h
        have h0 : i - bs.length = 0 := by
          have := (List.getElem?_eq_some_iff.mp h).1
          simp at this
          omega
        rw [h0] at h
        simp at h
        subst h
        have : i = j := by omega
        rw [this]; exact hv
    rintro H1 ⟨k1, b1, bs, eB, bl, bok⟩
    -- heads
    refine ⟨.int (m : Int), rfl, (m : Int), rfl, by omega, by omega, fun HL nH => ?_⟩
    have BH := ne_of_none eB nH
    rw [Int.toNat_natCast]
    refine lc_it (walk_range (lo := 0) (n := m)) (fun j H2 => Same H1 H2 ∧ ∃ hs : List V, H2 HL = some (.lst hs) ∧ hs.length ≤ j ∧ (∀ v ∈ hs, IntIn m v) ∧ (1 ≤ j → hs ≠ [])) ⟨same_new nH, [], upd_same, Nat.zero_le _, by simp, by omega⟩ (fun _ _ _ _ => trivial) ?_ ?_
    · rintro j z H2' H2 hj ⟨s2, hs, e2, hl, hok, hne⟩ ⟨rfl, rfl⟩
      refine ⟨rfl, .int (0 + (j : Int)), rfl, .ref BL, rfl, BL, bs, rfl, .inl (sql_of (s2 _ _ eB)), rfl, bok.flat, _, rfl, ?_⟩
      cases hI : inV (V.int (0 + (j : Int))) bs with
      | true =>
        refine ifF rfl ⟨s2, hs, e2, by omega, hok, fun _ => ?_⟩
        by_cases h0 : j = 0
        · subst h0
          have := bok.zero
          rw [show (0 : Int) + ((0 : Nat) : Int) = 0 from rfl] at hI
          rw [this] at hI; cases hI
        · exact hne (by omega)
      | false =>
        refine ifT rfl ⟨_, rfl, hs, e2, small1000 (by omega), fun b' o eb => ?_, _, upd_same, by rw [List.length_append, List.length_singleton]; omega, fun v hv => ?_, fun _ => by simp⟩
        · rw [upd_ne (ne_of_none eb nH)]; exact s2 _ _ eb
        · rcases List.mem_append.mp hv with h | h
          · exact hok v h
          · rw [List.mem_singleton] at h
            exact ⟨_, h, by omega, by omega⟩
    rintro H2 ⟨s2, hs, eH, hl, hok, hne⟩
    have k2 : Kp [b] H H2 := k1.trans (Kp.of_same s2)
    have b2 : Bg H2 b c := b1.kp (Kp.of_same (S := []) s2) (by simp) (by simp)
    have eB2 := s2 _ _ eB
    -- heads + mixed(..)[:..]
    refine ⟨.ref HL, rfl, .ref b, rfl, ?_⟩
    refine ⟨.int (m : Int), rfl, (m : Int), rfl, by omega, by omega, fun XL nX => ?_⟩
    rw [Int.toNat_natCast]
    have XH := ne_of_none eH nX
    have XB := ne_of_none eB2 nX
    refine lc_it (walk_range (lo := 0) (n := m)) (fun j H3 => Same H2 H3 ∧ ∃ hs : List V, H3 XL = some (.lst hs) ∧ hs.length ≤ j ∧ (∀ v ∈ hs, IntIn m v)) ⟨same_new nX, [], upd_same, Nat.zero_le _, by simp⟩ (fun _ _ _ _ => trivial) ?_ ?_
    · rintro j z H3' H3 hj ⟨s3, xs, e3, xl, xok⟩ ⟨rfl, rfl⟩
      refine ⟨rfl, .int (0 + (j : Int)), rfl, .ref BL, rfl, BL, bs, rfl, .inl (sql_of (s3 _ _ eB2)), rfl, bok.flat, _, rfl, ?_⟩
      cases hI : inV (V.int (0 + (j : Int))) bs with
      | false => exact ifF rfl ⟨s3, xs, e3, by omega, xok⟩
      | true =>
        refine ifT rfl ⟨_, rfl, xs, e3, small1000 (by omega), fun b' o eb => ?_, _, upd_same, by rw [List.length_append, List.length_singleton]; omega, fun v hv => ?_⟩
        · rw [upd_ne (ne_of_none eb nX)]; exact s3 _ _ eb
        · rcases List.mem_append.mp hv with h | h
          · exact xok v h
          · rw [List.mem_singleton] at h
            exact ⟨_, h, by omega, by omega⟩
    rintro H3 ⟨s3, xs, eX, xl, xok⟩
    have k3 : Kp [b] H H3 := k2.trans (Kp.of_same s3)
    have b3 : Bg H3 b c := b2.kp (Kp.of_same (S := []) s3) (by simp) (by simp)
    have eB3 := s3 _ _ eB2
    have eH3 := s3 _ _ eH
    have Xb := b2.ne nX
    have Hb := b1.ne nH
    refine ⟨b, c, XL, xs, rfl, b3, sql_of (off_of (by simpa using Xb) eX), by omega, fun YL H4 ys nY eY pY k4 b4 => ?_⟩
    have eB4 := k4 _ _ (by simpa using Bb) eB3
    have eH4 := k4 _ _ (by simpa using Hb) eH3
    have Yb := b3.ne nY
    refine ⟨.ref b, rfl, len_ok (by simp), fun L5 nL5 => ?_⟩
    have L5b := b4.ne nL5
    refine ⟨b, c, L5, _, rfl, b4.new nL5, .inl (sql_of (off_of (by simpa using L5b) upd_same)), by simp, by simp, fun i v H5 ev k5' b5 => ?_⟩
    have k45 : Kp [b] H4 H5 := (Kp.new nL5).trans k5'
    obtain ⟨zi, rfl⟩ : ∃ s : Int, v = .int s := by
      have hall : ∀ x ∈ [V.int 1, V.int 2, V.int 0, V.int 6], ∃ s : Int, x = .int s := by
        simp only [List.forall_mem_cons]
        exact ⟨⟨_, rfl⟩, ⟨_, rfl⟩, ⟨_, rfl⟩, ⟨_, rfl⟩, fun _ h => nomatch h⟩
      exact hall v (List.mem_of_getElem? ev)
    have eB5 := k45 _ _ (by simpa using Bb) eB4
    have eH5 := k45 _ _ (by simpa using Hb) eH4
    have eY5 := k45 _ _ (by simpa using Yb) eY
    have k5 : Kp [b] H H5 := k3.trans (k4.trans k45)
    refine ⟨zi, rfl, YL, ys, rfl, sql_of eY5, fun S1 nS1 => ?_⟩
    have HS := ne_of_none eH5 nS1
    refine ⟨HL, S1, hs, _, rfl, rfl, by rw [upd_ne HS]; exact eH5, upd_same, ?_, fun HL2 nH2 => ?_⟩
    · have h1 := cutV_length ys none (some zi)
      have h2 := pY.length_eq
      omega
    have s6 : Same H5 (upd (upd H5 S1 (.lst (cutV ys none (some zi)))) HL2 (.lst (hs ++ cutV ys none (some zi)))) := (same_new nS1).trans (same_new nH2)
    have eH6 : (upd (upd H5 S1 (.lst (cutV ys none (some zi)))) HL2 (.lst (hs ++ cutV ys none (some zi)))) HL2 = some (.lst (hs ++ cutV ys none (some zi))) := upd_same
    revert s6 eH6
    generalize upd (upd H5 S1 (.lst (cutV ys none (some zi)))) HL2 (.lst (hs ++ cutV ys none (some zi))) = H6
    intro s6 eH6
    have h2ok : ∀ v ∈ hs ++ cutV ys none (some zi), IntIn m v := by
      intro v hv
      rcases List.mem_append.mp hv with h | h
      · exact hok v h
      · exact xok v (pY.mem_iff.mp (cut_mem h))
    have h2ne : hs ++ cutV ys none (some zi) ≠ [] := by
      intro z
      exact hne m1 (List.append_eq_nil_iff.mp z).1
    have h2l : (hs ++ cutV ys none (some zi)).length ≤ 100 := by
      have h1 := cutV_length ys none (some zi)
      have h2 := pY.length_eq
      rw [List.length_append]
      omega
    revert h2ok h2ne h2l eH6
    generalize hs ++ cutV ys none (some zi) = hs2
    intro eH6 h2ok h2ne h2l
    have k6 : Kp [b] H H6 := k5.trans (Kp.of_same s6)
    have b6 : Bg H6 b c := b5.kp (Kp.of_same (S := []) s6) (by simp) (by simp)
    have eB6 := s6 _ _ eB5
    -- found = []
    refine ⟨by decide, fun F nF => ?_⟩
    have Fb := b6.ne nF
    have Fc := b6.nec nF
    have nF0 : H F = none := b6.free k6 nF
    have BF := ne_of_none eB6 nF
    have s7 : Same H6 (upd H6 F (.lst [])) := same_new nF
    refine ⟨.ref HL2, rfl, .int (n : Int), rfl, (n : Int), rfl, HL2, hs2, rfl, sql_of (s7 _ _ eH6), fun SL nS => ?_⟩
    have s8 : Same (upd H6 F (.lst [])) (upd (upd H6 F (.lst [])) SL (.lst (cutV hs2 none (some (n : Int))))) := same_new nS
    have eF8 := s8 _ _ (show (upd H6 F (.lst [])) F = some (.lst []) from upd_same)
    have eS8 : (upd (upd H6 F (.lst [])) SL (.lst (cutV hs2 none (some (n : Int))))) SL = some (.lst (cutV hs2 none (some (n : Int)))) := upd_same
    have FS : F ≠ SL := ne_of_none (show (upd H6 F (.lst [])) F = some (.lst []) from upd_same) nS
    have k8 : Kp [b] H (upd (upd H6 F (.lst [])) SL (.lst (cutV hs2 none (some (n : Int))))) := (k6.up nF).up nS
    have b8 : Bg (upd (upd H6 F (.lst [])) SL (.lst (cutV hs2 none (some (n : Int))))) b c := (b6.new nF).new nS
    have Sb := (b6.new (o := .lst []) nF).ne nS
    have eB8 := s8 _ _ (s7 _ _ eB6)
    have BS : BL ≠ SL := ne_of_none (s7 _ _ eB6) nS
    rw [cutTo] at eS8 s8 eF8 k8 b8 eB8 ⊢
    revert s8 eF8 eS8 k8 b8 eB8
    generalize upd (upd H6 F (.lst [])) SL (.lst (hs2.take n)) = H8
    intro s8 eF8 eS8 k8 b8 eB8
    refine ⟨SL, rfl, ⟨_, sql_of eS8⟩, ?_⟩
    refine for_it (walk_list (xs := hs2.take n)) (fun i σ H9 => (∃ y6 y7 y8, σ = [some (.ref b), some (.int (m : Int)), some (.int (n : Int)), some (.ref BL), some (.ref HL2), some (.ref F), y6, y7, y8]) ∧ Kp [b] H H9 ∧ Bg H9 b c ∧
        H9 BL = some (.lst bs) ∧ H9 SL = some (.lst (hs2.take n)) ∧ ∃ fs : List (List Int), Ls K [b] H9 F (fs.map Tup.mk) ∧ fs.length = i ∧ ∀ f ∈ fs, Ci m f)
      ⟨⟨none, none, none, rfl⟩, k8, b8, eB8, eS8, [], ⟨[], eF8, .nil⟩, rfl, by simp⟩ ?_ ?_ ?_
    · rintro i σ H9 _ ⟨_, _, _, _, e, _⟩; exact sql_of e
    · rintro i z σ H9' H9 hi ⟨⟨y6, y7, y8, rfl⟩, k9, b9, eB9, eS9, fs, ls9, fl, fok⟩ ⟨rfl, hz⟩
      obtain ⟨x, rfl, x0, xm⟩ := h2ok z (List.mem_of_mem_take (List.mem_of_getElem? hz))
      refine ⟨.int x, rfl, len_ok (by simp), fun CL nC => ?_⟩
      have Cb := b9.ne nC
      have Cc := b9.nec nC
      have nC0 := b9.free k9 nC
      have BC := ne_of_none eB9 nC
      have SC' := ne_of_none eS9 nC
      obtain ⟨accF, eF9, hF9⟩ := id ls9
      have FC := ne_of_none eF9 nC
      -- while
      refine ⟨fun μ σ H10 => ∃ (cl : List Int) (last : Int), ∃ y8, σ = [some (.ref b), some (.int (m : Int)), some (.int (n : Int)), some (.ref BL), some (.ref HL2), some (.ref F), some (.int x), some (.ref CL), y8] ∧
          μ = ((m : Int) - last).toNat ∧ H10 CL = some (.lst ((cl ++ [last]).map V.int)) ∧ Ci m (cl ++ [last]) ∧ (∀ a, a ≠ CL → H10 a = H9 a), ⟨_, [], x, _, rfl, rfl, upd_same, ci_one x0 xm, fun a h => upd_ne h⟩, ?_⟩
      rintro μ σ H10 ⟨cl, last, y8', rfl, rfl, eC, ci, keep⟩
      have hlast := ci.rg last (by simp)
      obtain ⟨lt, rfl⟩ : ∃ t : Nat, last = t := ⟨last.toNat, by omega⟩
      have eB10 : H10 BL = some (.lst bs) := by rw [keep BL BC]; exact eB9
      obtain ⟨v, hv⟩ : ∃ v, bs[lt]? = some v := ⟨bs[lt]'(by omega), List.getElem?_eq_getElem (by omega)⟩
      have hat1 : atI ((cl ++ [(lt : Int)]).map V.int) (-1) = some (.int (lt : Int)) := by
        rw [List.map_append]
        exact atI_last _ _
      refine ⟨.ref BL, rfl, .ref CL, rfl, 1, rfl, CL, _, -1, _, rfl, rfl, sql_of eC, hat1, BL, bs, (lt : Int), v, rfl, rfl, sql_of eB10, atI_nat hv, rfl, _, rfl, ?_⟩
      have cll := ci.len
      rcases bok lt v hv with rfl | ⟨y, rfl, y0, ym⟩
      · refine ifF (by simp) ?_
        -- found.append(tuple(call))
        have eF10 : H10 F = some (.lst accF) := by rw [keep F FC]; exact eF9
        have k10 : Kp [b] H H10 := by
          intro a o na e
          rw [keep a (ne_of_none e nC0)]
          exact k9 a o na e
        have b10 : Bg H10 b c := by
          refine b9.kp (S := [CL]) (fun a o na e => ?_) (by simpa using Cb.symm) (by simpa using Cc.symm)
          rw [keep a (by simpa using na)]; exact e
        refine ⟨.ref F, rfl, .inl ⟨rfl, _, sql_of eF10⟩, .ref CL, rfl, CL, _, rfl, .inl ⟨sql_of eC, fun p np => ?_⟩⟩
        have ls10 : Ls K [b] H10 F (fs.map Tup.mk) := by
          refine ⟨accF, eF10, DpAll.mono (fun a o e => ?_) hF9⟩
          obtain ⟨na, e1⟩ := off_some e
          exact off_of na (by rw [keep a (ne_of_none e1 nC)]; exact e1)
        have pb := b10.ne np
        have pF := (ne_of_none eF10 np).symm
        have ls11 : Ls K [b] (upd H10 p (.tup ((cl ++ [(lt : Int)]).map V.int))) F (fs.map Tup.mk) := ls10.kp (T := []) (Kp.new np) (by simp) (by simp)
        obtain ⟨acc', e', l', ls12⟩ := ls11.push (d := Tup.mk (cl ++ [(lt : Int)])) (hd_tup (sqt_of (off_of (by simp [pF, pb]) upd_same)) (all_ints _))
        have hil : i < (hs2.take n).length := hi
        rw [List.length_take] at hil
        refine ⟨F, acc', _, rfl, rfl, e', small1000 (by rw [l', List.length_map]; omega), ⟨_, _, _, rfl⟩, (k10.up np).wf nF0, (b10.new np).wr Fb Fc, ?_, ?_, fs ++ [cl ++ [(lt : Int)]], by rw [List.map_append (f := Tup.mk)]; exact ls12, by simp [fl], fun f hf => ?_⟩
        · rw [upd_ne BF, upd_ne (ne_of_none eB10 np)]; exact eB10
        · have eS10 : H10 SL = some (.lst (hs2.take n)) := by rw [keep SL SC']; exact eS9
          rw [upd_ne FS.symm, upd_ne (ne_of_none eS10 np)]; exact eS10
        · rcases List.mem_append.mp hf with h | h
          · exact fok f h
          · rw [List.mem_singleton] at h
            rw [h]; exact ci
      · refine ifT (by simp) ?_
        refine ⟨fun σ' H' => ∃ y8, σ' = [some (.ref b), some (.int (m : Int)), some (.int (n : Int)), some (.ref BL), some (.ref HL2), some (.ref F), some (.int x), some (.ref CL), y8] ∧
          H' CL = some (.lst (((cl ++ [(lt : Int)]) ++ [y]).map V.int)) ∧ (∀ a, a ≠ CL → H' a = H9 a), ?_, ?_⟩
        · rintro σ' H' ⟨y8'', rfl, e', keep'⟩
          refine ⟨((m : Int) - y).toNat, by omega, cl ++ [(lt : Int)], y, y8'', rfl, rfl, e', ⟨by simp, ?_, fun a ha => ?_⟩, keep'⟩
          · rw [List.pairwise_append]
            refine ⟨ci.asc, List.pairwise_singleton _ _, fun a ha b' hb' => ?_⟩
            rw [List.mem_singleton] at hb'
            subst hb'
            rcases List.mem_append.mp ha with h | h
            · have := (List.pairwise_append.mp ci.asc).2.2 a h (lt : Int) (by simp)
              omega
            · rw [List.mem_singleton] at h; omega
          · rcases List.mem_append.mp ha with h | h
            · exact ci.rg a h
            · rw [List.mem_singleton] at h
              rw [h]; omega
        · refine ⟨.ref CL, rfl, .inl ⟨rfl, _, sql_of eC⟩, .ref BL, rfl, .ref CL, rfl, 1, rfl, CL, _, -1, _, rfl, rfl, sql_of eC, hat1, BL, bs, (lt : Int), .int y, rfl, rfl, sql_of eB10, atI_nat hv, CL, _, _, rfl, rfl, eC, small1000 (by rw [List.length_map]; omega), y8', rfl, ?_, fun a ha => ?_⟩
          · rw [upd_same, List.map_append (l₁ := cl ++ [(lt : Int)])]; rfl
          · rw [upd_ne ha]; exact keep a ha
    · rintro σ H9 ⟨⟨y6, y7, y8, rfl⟩, k9, b9, eB9, eS9, fs, ls9, fl, fok⟩
      rw [List.length_take] at fl
      have hpos : 0 < hs2.length := List.length_pos_iff.mpr h2ne
      refine ⟨.ref F, rfl, q F fs H9 nF0 ls9 ⟨?_, fok⟩ (by omega) k9 b9⟩
      intro z
      rw [z] at fl
      simp at fl
      omega
end
end CB
set_option Elab.async false
set_option linter.all false
set_option maxRecDepth 100000
set_option maxHeartbeats 4000000
namespace CB
open PySem PySem.Spec
open PyProof.Rows L2
open PySem.W (Datum Tup DatumOrd)
structure Fork where
  a : List Int
  b : List Int
  k : Int
  j : Int
  deriving DecidableEq
def Fork.dat (f : Fork) : PyData := .tuple [.tuple (f.a.map PyData.int), .tuple (f.b.map PyData.int), .int f.k, .int f.j]
theorem eqv_ints (x y : List Int) : PyData.eqv (.tuple (x.map PyData.int)) (.tuple (y.map PyData.int)) = decide (x = y) := by
  have h := Datum.eqv (Tup.mk x) (Tup.mk y)
  have e : decide (Tup.mk x = Tup.mk y) = decide (x = y) := decide_eq_decide.mpr (by simp)
  rw [e] at h
  exact h
theorem eqv_int (x y : Int) : PyData.eqv (.int x) (.int y) = decide (x = y) := Datum.eqv x y
theorem depth_ints (c : List Int) : PyData.depth (.tuple (c.map PyData.int)) ≤ 1 := Datum.depth_le (Tup.mk c)
theorem plain_ints (c : List Int) : PyData.plain (.tuple (c.map PyData.int)) = true := Datum.plain (Tup.mk c)
theorem fork_eqv (f g : Fork) : PyData.eqv f.dat g.dat = decide (f = g) := by
  obtain ⟨a, b, k, j⟩ := f
  obtain ⟨a', b', k', j'⟩ := g
  simp only [Fork.dat]
  rw [PyData.eqv]
  simp only [PyData.eqvAll, eqv_ints, eqv_int, Bool.and_true, Fork.mk.injEq, Bool.decide_and]
instance : Datum Fork where
  toD := Fork.dat
  plain f := by
    have h1 := plain_ints f.a
    have h2 := plain_ints f.b
    simp only [PyData.plain] at h1 h2
    simp only [Fork.dat, PyData.plain, PyData.plainAll, h1, h2, Bool.and_true, Bool.true_and]
  eqv := fork_eqv
  depth := 2
  depth_le f := by
    have h1 := depth_ints f.a
    have h2 := depth_ints f.b
    simp only [PyData.depth] at h1 h2
    simp only [Fork.dat, PyData.depth, PyData.depthAll]
    omega
theorem fork_alike (f g : Fork) : PySem.W.alike f.dat g.dat = true := by
  have h1 := DatumOrd.alike (Tup.mk f.a) (Tup.mk g.a)
  have h2 := DatumOrd.alike (Tup.mk f.b) (Tup.mk g.b)
  have h1 : PySem.W.alike (.tuple (f.a.map PyData.int)) (.tuple (g.a.map PyData.int)) = true := h1
  have h2 : PySem.W.alike (.tuple (f.b.map PyData.int)) (.tuple (g.b.map PyData.int)) = true := h2
  show PySem.W.alike (.tuple _) (.tuple _) = true
  rw [PySem.W.alike]
  simp only [PySem.W.alikeAll, h1, h2, Bool.true_and, Bool.and_true]
  rfl
theorem fork_lay : ∀ fs : List Fork, PyData.canLayAll0 (fs.map Datum.toD) = true
  | [] => rfl
  | f :: fs => by
    rw [List.map_cons, PyData.canLayAll0, fork_lay fs, Bool.and_true]
    show PyData.canLay0 f.dat = true
    simp only [Fork.dat, PyData.canLay0, PyData.canLayAll0, ints_lay, Bool.and_true]
section
variable {P : Program} {w : World} {K : PySem.W.Frag} {mg : Str → Option Value} {base : Heap} {C p0 p1 p2 p3 : Addr}
def spForks (K : PySem.W.Frag) : Sp := fun vs H Q _ => ∃ (t F : Addr) (x : V) (acc : List V) (fs : List (List Int)), vs = [.ref t] ∧ SqT K H t [x, .ref F] ∧ H F = some (.lst acc) ∧ HdAll K H acc (fs.map Tup.mk) ∧
  (∀ f ∈ fs, f.length ≤ 6) ∧ fs.length ≤ 100 ∧ ∀ p xs (es : List Fork) H', H p = none → H' p = some (.lst xs) → HdAll K H' xs es → Same H H' → Q (.ref p) H'
theorem sl_ints {H : Hp} {a : Addr} {f : List Int} {lo : Option Int} {Q : VK} (ha : SqT K H a (f.map V.int))
    (q : ∀ v a' (gs : List Int) H', v = .ref a' → SqT K H' a' (gs.map V.int) → gs.length ≤ f.length → Same H H' → Q v H') : rSlA K (.ref a) lo none H Q := by
  refine ⟨a, _, rfl, ha, fun _ => q _ a f H rfl ha (Nat.le_refl _) (Same.refl _), fun _ p np => ?_⟩
  have e : ∃ gs : List Int, cutV (f.map V.int) lo none = gs.map V.int ∧ gs.length ≤ f.length := by
    refine ⟨(f.drop (HT.sIx (f.map V.int).length 0 lo)).take (HT.sIx (f.map V.int).length (f.map V.int).length none - HT.sIx (f.map V.int).length 0 lo), ?_, ?_⟩
    · unfold cutV
      rw [List.map_take, List.map_drop]
    · rw [List.length_take, List.length_drop]; omega
  obtain ⟨gs, e1, e2⟩ := e
  rw [e1]
  exact q _ p gs _ rfl sqt_new e2 (same_new np)
abbrev s_law_forks : Stmt := topS 42
abbrev p_law_forks : List Str := ["_law_house_here"]
theorem sc_law_forks : FnScope ["_law_house_here", "_law_found", "_law_one_here", "_law_other", "_law_at", "_law_kind", "_law_behind"] ["_law_house_here"] (defScope s_law_forks) := ⟨rfl, rfl, rfl, by decide +kernel, rfl, by decide +kernel, by decide +kernel⟩
theorem c_forks (D : Def K mg "_law_forks" s_law_forks p_law_forks) (B : Blt mg) : Cal P w K mg base "_law_forks" p_law_forks 1 (spForks K) := by
  refine D.cal sc_law_forks (fun vs H Q E h => ?_) (fun f cdv A outer s H vs Q E hr h => ?_)
  · obtain ⟨t, F, x, acc, fs, rfl, _⟩ := h; rfl
  · obtain ⟨t, F, x, acc, fs, rfl, hT, eF, hacc, f6, fl, q⟩ := h
    refine ⟨_, (pss_cons (ps_set (i := 1) sc_law_forks.nd rfl (.inl rfl) (pe_lst pa_nil))
  (pss_cons (ps_for PassesOwn.never rfl (k_piL K (pe_ix (k_ixT K) (pv 0) pe_int (fun _ _ => rfl))) (pg_name (i := 2) sc_law_forks.nd rfl (by first | exact .inl rfl | exact .inr rfl))
  (pss_one (ps_for PassesOwn.never rfl (k_piL K (pe_ix (k_ixT K) (pv 0) pe_int (fun _ _ => rfl))) (pg_name (i := 3) sc_law_forks.nd rfl (by first | exact .inl rfl | exact .inr rfl))
  (pss_one (ps_for PassesOwn.never rfl (k_enumT K B.enumerate (pa_cons (pv 2) pa_nil)) (k_tup K (n := 2) rfl (pgs_cons (pg_name (i := 4) sc_law_forks.nd rfl (by first | exact .inl rfl | exact .inr rfl)) (pgs_cons (pg_name (i := 5) sc_law_forks.nd rfl (by first | exact .inl rfl | exact .inr rfl)) pgs_nil)))
  (pss_one (ps_if (pt_cmpR (k_inX K Int hr.units) (pv 5) (pv 3) (by with_unfolding_all rfl))
  (pss_one (ps_expr (k_bm K PySem.F.plainAttrs_list PySem.F.slot_list_extend PySem.F.type_list_extend mt_extend (pv 1) (pa_cons (pe_lc rfl sc_law_forks.nd (k_piT K (pe_slice (k_slT K) (pv 2) (po_some (pe_op op_add (pv 4) pe_int)) po_none)) (blkOk_by (own := [("_law_behind", 6)]) (by kernel_rfl)) (fun _ _ _ _ _ => (pg_name (i := 6) sc_law_forks.nd rfl (by first | exact .inl rfl | exact .inr rfl))) (fun _ _ _ _ _ => (pts_one (pt_cmpR (k_notInX K Int hr.units) (pv 6) (pv 3) (by with_unfolding_all rfl)))) (fun _ _ _ _ _ => (pe_tup (pa_cons (pv 2) (pa_cons (pv 3) (pa_cons (pv 5) (pa_cons (pv 6) pa_nil))))))) pa_nil))))
  pss_nil)))))))
  (pss_one (ps_ret (pe_callB (k_sortD K hr.units) (by rfl) B.sorted (by decide +kernel) (pa_cons (pv 1) pa_nil)))))), ?_⟩
    have al : acc.length = fs.length := by
      have := all_len hacc
      rwa [List.length_map] at this
    have hz : sizeLine = 16777216 := by decide
    refine ⟨by decide, fun Fd nFd => ?_⟩
    have s0 : Same H (upd H Fd (.lst [])) := same_new nFd
    have FF := ne_of_none eF nFd
    refine ⟨.ref t, rfl, t, _, 1, .ref F, rfl, rfl, Same.sqt s0 hT, atI_nat (j := 1) rfl, F, rfl, ⟨_, sql_of (s0 _ _ eF)⟩, ?_⟩
    refine for_it (walk_list (xs := acc)) (fun i σ H1 => (∃ y2 y3 y4 y5 y6, σ = [some (.ref t), some (.ref Fd), y2, y3, y4, y5, y6]) ∧ Same H H1 ∧ ∃ ks : List Fork, Ls K [] H1 Fd ks ∧ ks.length ≤ i * 3600)
      ⟨⟨_, _, _, _, _, rfl⟩, s0, [], Ls.new rfl, by simp⟩ ?_ ?_ ?_
    · rintro i σ H1 _ ⟨_, s1, _⟩; exact sql_of (s1 _ _ eF)
    · rintro i z σ H1' H1 hi ⟨⟨y2, y3, y4, y5, y6, rfl⟩, s1, ks, ls1, kl⟩ ⟨rfl, hz1⟩
      obtain ⟨tt, ht, hd⟩ := all_get hacc hz1
      obtain ⟨f1, hf1, rfl⟩ := map_get ht
      have fl1 := f6 f1 (List.mem_of_getElem? hf1)
      refine ⟨.ref t, rfl, t, _, 1, .ref F, rfl, rfl, Same.sqt s1 hT, atI_nat (j := 1) rfl, F, rfl, ⟨_, sql_of (s1 _ _ eF)⟩, ?_⟩
      refine for_it (walk_list (xs := acc)) (fun j σ H2 => (∃ y3 y4 y5 y6, σ = [some (.ref t), some (.ref Fd), some z, y3, y4, y5, y6]) ∧ Same H H2 ∧ ∃ ks : List Fork, Ls K [] H2 Fd ks ∧ ks.length ≤ i * 3600 + j * 36)
        ⟨⟨_, _, _, _, rfl⟩, s1, ks, ls1, by omega⟩ ?_ ?_ ?_
      · rintro j σ H2 _ ⟨_, s2, _⟩; exact sql_of (s2 _ _ eF)
      · rintro j z2 σ H2' H2 hj ⟨⟨y3, y4, y5, y6, rfl⟩, s2, ks, ls2, kl2⟩ ⟨rfl, hz2⟩
        obtain ⟨tt2, ht2, hd2⟩ := all_get hacc hz2
        obtain ⟨f2, hf2, rfl⟩ := map_get ht2
        obtain ⟨va, rfl, hva⟩ := hd_intT hd
        have hva : SqT K H va (f1.map V.int) := hva
        refine ⟨.ref va, rfl, va, _, rfl, Same.sqt s2 hva, ?_⟩
        refine for_it (walk_enumT (xs := f1.map V.int)) (fun l σ H3 => (∃ y4 y5 y6, σ = [some (.ref t), some (.ref Fd), some (.ref va), some z2, y4, y5, y6]) ∧ Same H H3 ∧ ∃ ks : List Fork, Ls K [] H3 Fd ks ∧ ks.length ≤ i * 3600 + j * 36 + l * 6)
          ⟨⟨_, _, _, rfl⟩, s2, ks, ls2, by omega⟩ ?_ ?_ ?_
        · rintro l σ H3 _ ⟨_, s3, _⟩; exact Same.sqt s3 hva
        · rintro l w0 σ H3 H4 hl ⟨⟨y4, y5, y6, rfl⟩, s3, ks, ls3, kl3⟩ ⟨T, u1, u2, rfl, nT, rfl, e1, e2⟩
          cases (Option.some.inj e1)
          obtain ⟨kd, hkd, rfl⟩ := map_get e2
          have sT : Same H3 (upd H3 T (.tup [.int (l : Nat), .int kd])) := same_new nT
          refine ⟨T, _, rfl, sqt_new, rfl, .int (l : Nat), [.int kd], rfl, .int kd, [], rfl, rfl, ?_⟩
          have ls4 : Ls K [] (upd H3 T (.tup [.int (l : Nat), .int kd])) Fd ks := ls3.kp (T := []) (Kp.new nT) (by simp) (by simp)
          revert sT ls4
          generalize upd H3 T (.tup [.int (l : Nat), .int kd]) = H4
          intro sT ls4
          have s4 := s3.trans sT
          have hd24 : Hd K H4 z2 (Tup.mk f2) := Dp.mono s4 hd2
          refine ⟨.int kd, rfl, z2, rfl, kd, f2, hd_int kd, .inr hd24, _, rfl, ite2 (fun _ => ?_) (fun _ => ⟨⟨_, _, _, rfl⟩, s4, ks, ls4, by omega⟩)⟩
          obtain ⟨acc4, eFd4, hacc4⟩ := id ls4
          have al4 := all_len hacc4
          refine ⟨.ref Fd, rfl, .inl ⟨rfl, _, sql_of eFd4⟩, ?_⟩
          refine ⟨.ref va, rfl, .int (l : Nat), rfl, _, 1, rfl, rfl, _, rfl, ?_⟩
          dsimp only [tNoPart]
          refine sl_ints (Same.sqt s4 hva) fun v ga gs H5 ev hga gl s5 => ?_
          subst ev
          refine ⟨ga, rfl, ⟨_, hga⟩, fun EL nE => ?_⟩
          have eFd5 := s5 _ _ eFd4
          have FE := ne_of_none eFd5 nE
          have s45 := s4.trans s5
          have nE0 := s45.free nE
          refine lc_it (walk_tup (xs := gs.map V.int)) (fun n H6 => Same H5 H6 ∧ ∃ js : List Fork, Ls K [Fd] H6 EL js ∧ js.length ≤ n) ⟨same_new nE, [], Ls.new rfl, Nat.le_refl _⟩ (fun n H6 _ t => Same.sqt t.1 hga) ?_ ?_
          · rintro n w1 H6' H6 hn ⟨s6, js, ls6, jl⟩ ⟨rfl, hw1⟩
            obtain ⟨bh, hbh, rfl⟩ := map_get hw1
            have s46 := s45.trans s6
            have hn' : n < gs.length := by simpa using hn
            refine ⟨rfl, .int bh, rfl, z2, rfl, bh, f2, hd_int bh, .inr (Dp.mono s46 hd2), _, rfl, ite2 (fun _ => ?_) (fun _ => ⟨s6, js, ls6, by omega⟩)⟩
            refine ⟨.ref va, rfl, z2, rfl, .int kd, rfl, .int bh, rfl, len_ok (by simp), fun p np => ?_⟩
            have ls7 : Ls K [Fd] (upd H6 p (.tup [.ref va, z2, .int kd, .int bh])) EL js := ls6.kp (T := []) (Kp.new np) (by simp) (by simp)
            obtain ⟨bs6, eE6, _⟩ := id ls6
            have pE := (ne_of_none eE6 np).symm
            have pF := (ne_of_none (s6 _ _ eFd5) np).symm
            have m7 : Same H (off (upd H6 p (.tup [.ref va, z2, .int kd, .int bh])) (EL :: [Fd])) := off_free (s46.trans (same_new np)) (by simp [nE0, nFd])
            obtain ⟨acc', e', l', ls8⟩ := ls7.push (d := Fork.mk f1 f2 kd bh) (Dp.tup (sqt_of (off_of (by simp [pE, pF]) upd_same)) (.cons (Dp.mono m7 hd) (.cons (Dp.mono m7 hd2) (.cons (.int _) (.cons (.int _) .nil)))))
            refine ⟨acc', e', small1000 (by omega), fun b' o eb => ?_, _, ls8, by rw [List.length_append, List.length_singleton]; omega⟩
            rw [upd_ne (ne_of_none eb nE)]
            exact (s6.trans (same_new np)) _ _ eb
          · rintro H6 ⟨s6, js, ls6, jl⟩
            rw [List.length_map] at jl
            obtain ⟨bs, eE6, hbs⟩ := ls6
            have bl := all_len hbs
            have eFd6 := s6 _ _ eFd5
            have hi1 : i < 100 := by omega
            have hj1 : j < 100 := by omega
            have hl1 : l < 6 := by
              have : l < f1.length := by simpa using hl
              omega
            refine ⟨Fd, EL, acc4, bs, rfl, rfl, eFd6, eE6, by omega, ⟨_, _, _, rfl⟩, ?_, ks ++ js, ⟨acc4 ++ bs, upd_same, ?_⟩, by rw [List.length_append]; omega⟩
            · intro b' o eb
              rw [upd_ne (ne_of_none eb nFd)]
              exact (s45.trans s6) _ _ eb
            · have m1 : Same (off H6 [Fd]) (off (upd H6 Fd (.lst (acc4 ++ bs))) [Fd]) := off_wr (by simp)
              exact all_app (DpAll.mono ((off_same (s5.trans s6)).trans m1) hacc4) (DpAll.mono ((off_mono (by simp)).trans m1) hbs)
        · rintro σ H3 ⟨⟨y4, y5, y6, rfl⟩, s3, ks, ls3, kl3⟩
          rw [List.length_map] at kl3
          exact ⟨⟨_, _, _, _, rfl⟩, s3, ks, ls3, by omega⟩
      · rintro σ H2 ⟨⟨y3, y4, y5, y6, rfl⟩, s2, ks, ls2, kl2⟩
        exact ⟨⟨_, _, _, _, _, rfl⟩, s2, ks, ls2, by omega⟩
    · rintro σ H1 ⟨⟨y2, y3, y4, y5, y6, rfl⟩, s1, ks, ls1, kl⟩
      obtain ⟨acc1, eFd, hacc1⟩ := ls1.all
      rw [off_nil] at hacc1
      refine ⟨.ref Fd, rfl, H1, Fd, acc1, ks.map Datum.toD, rfl, Same.refl _, .inl (sql_of eFd), hacc1, fork_lay ks, .inl ⟨?_, .inl ?_⟩, ?_, fun ys es p hp1 hp2 hpw hys np => ?_⟩
      · intro d h1 e h2
        obtain ⟨d', _, rfl⟩ := List.mem_map.mp h1
        obtain ⟨e', _, rfl⟩ := List.mem_map.mp h2
        exact fork_alike d' e'
      · intro d h1
        obtain ⟨d', _, rfl⟩ := List.mem_map.mp h1
        exact ⟨_, _, rfl⟩
      · intro d h1
        obtain ⟨d', _, rfl⟩ := List.mem_map.mp h1
        exact Nat.le_trans (Datum.depth_le d') (by decide)
      · obtain ⟨fs', pp, rfl⟩ := perm_map_ex (f := fun d : Fork => Datum.toD d) hp2 rfl
        exact q p ys fs' _ (s1.free np) upd_same (DpAll.mono (same_new np) hys) (s1.trans (same_new np))
end
end CB
set_option Elab.async false
set_option linter.all false
set_option maxRecDepth 100000
set_option maxHeartbeats 4000000
/-! list(zip(a, b)), list(d.values()) -/
namespace CB
open PySem PySem.Spec
open PyProof.Rows L2
section
variable {prog : Program} {w : World} {A : Around} {E : Value → Shared → Prop} {s : Shared}
abbrev ZipO (h : Heap) (z TI TO a : Addr) (f : Bool) : Prop :=
  h.get? z = some { cls := .type "zip", dict := none, data := .fields #[rawInt a, .bool f, .bool false, .ref TI, .ref TO], slots := #[] }
theorem owned_out {z TI TO a : Addr} {f : Bool} {oa : Obj} {Q : Bool → Shared → Prop} (hz : ZipO s.heap z TI TO a f) (ha : s.heap.get? a = some oa)
    (h : ∀ h₁, ZipO h₁ z TI TO a true → Heap.SameBut z s.heap h₁ → Q false { s with heap := h₁ }) :
    wpAny (model prog w) A (Builtin.SmallTypes.ownedTupleIsFree (.ref z)) Q E s := by
  unfold Builtin.SmallTypes.ownedTupleIsFree
  refine wpAny_bind (wpAny_field hz rfl (x := rawInt a) rfl ?_)
  show wpAny _ _ (loadIfAlive ((a : Int).toNat) >>= _) _ _ _
  rw [Int.toNat_natCast]
  refine wpAny_bind (PySem.W.kdx_alive ha ?_)
  simp only [Option.isNone_some, Bool.false_eq_true, if_false]
  refine wpAny_bind (wpAny_field hz rfl (x := .bool f) rfl ?_)
  cases f with
  | true =>
    rw [if_neg (show ¬ ((Value.bool true != Value.bool true) = true) from Bool.false_ne_true)]
    exact wpAny_pure (h _ hz (Heap.SameBut.refl _ _))
  | false =>
    rw [if_pos (show (Value.bool false != Value.bool true) = true from rfl)]
    refine wpAny_bind (wpAny_setField_rec hz (by simp) fun h₃ he₃ hs₃ => ?_)
    exact wpAny_pure (h h₃ he₃ hs₃)
theorem zip_out_item {z TI TO i1 i2 l1 l2 a : Addr} {f : Bool} {oa : Obj} {k1 k2 : Nat} {xs ys : Array Value} {x y : Value} {Q : Value → Shared → Prop} (D : ZipApart z TI TO i1 i2 l1 l2)
    (hz : ZipO s.heap z TI TO a f) (ha : s.heap.get? a = some oa) (hTI : IsPair s.heap TI (.ref i1) (.ref i2))
    (h1 : s.heap.IsListIter i1 l1 k1) (h2 : s.heap.IsListIter i2 l2 k2) (hl1 : s.heap.IsList l1 xs) (hl2 : s.heap.IsList l2 ys) (hx : xs[k1]? = some x) (hy : ys[k2]? = some y)
    (hQ : ∀ h', ZipO h' z TI TO a true → h'.IsListIter i1 l1 (k1 + 1) → h'.IsListIter i2 l2 (k2 + 1) → IsPair h' s.heap.objs.size x y → h'.objs.size = s.heap.objs.size + 1 →
      (∀ c o, c ≠ z → c ≠ i1 → c ≠ i2 → s.heap.get? c = some o → h'.get? c = some o) → Q (.ref s.heap.objs.size) { s with heap := h' }) :
    wpAny (model prog w) A (Builtin.«zip.__next__» ⟨[.ref z], []⟩) (fun fin s' => ∃ v, fin = .done (.ret v) ∧ Q v s') E s := by
  show wpAny _ _ (field (.ref z) 2 >>= _) _ _ _
  refine wpAny_bind (wpAny_field hz rfl (x := .bool false) rfl ?_)
  show wpAny _ _ (field (.ref z) 3 >>= _) _ _ _
  refine wpAny_bind (wpAny_field hz rfl (x := .ref TI) rfl ?_)
  refine wpAny_bind (wpAny_seqItems hTI rfl ?_)
  show wpAny _ _ (Builtin.SmallTypes.ownedTupleIsFree (.ref z) >>= _) _ _ _
  refine wpAny_bind (owned_out hz ha fun h₁ hz₁ hs₁ => ?_)
  simp only [Bool.false_eq_true, if_false, List.forIn_cons, List.forIn_nil, List.forIn_toArray]
  refine wpAny_bind (wpAny_bind (wpAny_bind (wpAny_holding ?_)))
  show wpAny _ _ (Builtin.SmallTypes.nextOf (.ref i1) >>= _) _ _ _
  refine wpAny_bind (wpAny_nextOf_list_item (h1.extBut hs₁.extBut D.i1z) (hl1.extBut hs₁.extBut D.l1z) hx fun h₂ h1₂ hs₂ => wpAny_pure ?_)
  refine wpAny_pure ?_
  refine wpAny_bind (wpAny_bind (wpAny_holding ?_))
  show wpAny _ _ (Builtin.SmallTypes.nextOf (.ref i2) >>= _) _ _ _
  refine wpAny_bind (wpAny_nextOf_list_item ((h2.extBut hs₁.extBut D.i2z).extBut hs₂.extBut D.i12.symm) ((hl2.extBut hs₁.extBut D.l2z).extBut hs₂.extBut D.l2i1) hy fun h₃ h2₃ hs₃ => wpAny_pure ?_)
  refine wpAny_pure (wpAny_pure ?_)
  refine wpAny_bind (wpAny_newTuple (hsz := show 2 ≤ sizeLine by decide) ?_)
  refine wpAny_pure ⟨_, rfl, ?_⟩
  have hsz : h₃.objs.size = s.heap.objs.size := by rw [hs₃.1, hs₂.1, hs₁.1]
  have hz₃ : ZipO h₃ z TI TO a true := hs₃.extBut _ _ D.i2z.symm (hs₂.extBut _ _ D.i1z.symm hz₁)
  have h1₃ : h₃.IsListIter i1 l1 (k1 + 1) := h1₂.extBut hs₃.extBut D.i12
  have hT : (h₃.push { cls := .type "tuple", data := .seq #[x, y] }).get? h₃.objs.size = some { cls := .type "tuple", data := .seq #[x, y] } := Heap.get?_push_size _ rfl
  have hS : (h₃.push { cls := .type "tuple", data := .seq #[x, y] }).objs.size = h₃.objs.size + 1 := Heap.size_push ..
  show Q (.ref h₃.objs.size) { s with heap := h₃.push { cls := .type "tuple", data := .seq #[x, y] } }
  rw [hsz] at hT hS ⊢
  exact hQ _ (Heap.get?_push_of_some _ hz₃) (h1₃.at fun o e => Heap.get?_push_of_some _ e) (h2₃.at fun o e => Heap.get?_push_of_some _ e) hT hS
    fun c o c1 c2 c3 e => Heap.get?_push_of_some _ (hs₃.extBut _ _ c3 (hs₂.extBut _ _ c2 (hs₁.extBut _ _ c1 e)))
theorem zip_out_end {z TI TO i1 i2 l1 l2 a : Addr} {f : Bool} {oa : Obj} {k1 k2 : Nat} {xs ys : Array Value} {Q : Fin → Shared → Prop} (hh : A.handled = none) (D : ZipApart z TI TO i1 i2 l1 l2)
    (hz : ZipO s.heap z TI TO a f) (ha : s.heap.get? a = some oa) (hTI : IsPair s.heap TI (.ref i1) (.ref i2))
    (h1 : s.heap.IsListIter i1 l1 k1) (h2 : s.heap.IsListIter i2 l2 k2) (hl1 : s.heap.IsList l1 xs) (hl2 : s.heap.IsList l2 ys) (hend : xs[k1]? = none ∨ ys[k2]? = none)
    (hE : ∀ h' e, (∀ c o, c ≠ z → c ≠ i1 → c ≠ i2 → s.heap.get? c = some o → h'.get? c = some o) → (∃ o, h'.get? e = some o ∧ o.cls = .type "StopIteration") → E (.ref e) { s with heap := h' }) :
    wpAny (model prog w) A (Builtin.«zip.__next__» ⟨[.ref z], []⟩) Q E s := by
  show wpAny _ _ (field (.ref z) 2 >>= _) _ _ _
  refine wpAny_bind (wpAny_field hz rfl (x := .bool false) rfl ?_)
  show wpAny _ _ (field (.ref z) 3 >>= _) _ _ _
  refine wpAny_bind (wpAny_field hz rfl (x := .ref TI) rfl ?_)
  refine wpAny_bind (wpAny_seqItems hTI rfl ?_)
  show wpAny _ _ (Builtin.SmallTypes.ownedTupleIsFree (.ref z) >>= _) _ _ _
  refine wpAny_bind (owned_out hz ha fun h₁ hz₁ hs₁ => ?_)
  simp only [Bool.false_eq_true, if_false, List.forIn_cons, List.forIn_nil, List.forIn_toArray]
  refine wpAny_bind (wpAny_bind (wpAny_bind (wpAny_holding ?_)))
  show wpAny _ _ (Builtin.SmallTypes.nextOf (.ref i1) >>= _) _ _ _
  cases hx : xs[k1]? with
  | none =>
    refine wpAny_bind (wpAny_nextOf_list_end hh (h1.extBut hs₁.extBut D.i1z) (hl1.extBut hs₁.extBut D.l1z) hx fun h₂ e hs₂ he => ?_)
    exact hE h₂ e (fun c o c1 c2 _ x => hs₂ _ _ c2 (hs₁.extBut _ _ c1 x)) he
  | some x =>
    have hy : ys[k2]? = none := by rcases hend with h | h; rw [hx] at h; cases h; exact h
    refine wpAny_bind (wpAny_nextOf_list_item (h1.extBut hs₁.extBut D.i1z) (hl1.extBut hs₁.extBut D.l1z) hx fun h₂ h1₂ hs₂ => wpAny_pure ?_)
    refine wpAny_pure ?_
    refine wpAny_bind (wpAny_bind (wpAny_holding ?_))
    show wpAny _ _ (Builtin.SmallTypes.nextOf (.ref i2) >>= _) _ _ _
    refine wpAny_bind (wpAny_nextOf_list_end hh ((h2.extBut hs₁.extBut D.i2z).extBut hs₂.extBut D.i12.symm) ((hl2.extBut hs₁.extBut D.l2z).extBut hs₂.extBut D.l2i1) hy fun h₄ e hs₄ he => ?_)
    exact hE h₄ e (fun c o c1 c2 c3 x => hs₄ _ _ c3 (hs₂.extBut _ _ c2 (hs₁.extBut _ _ c1 x))) he
/-- a zip at its turn i -/
structure Zs (h : Heap) (z TI TO i1 i2 l1 l2 S : Addr) (xs ys : Array Value) (i : Nat) : Prop where
  st : (i = 0 ∧ IsZip h z TI TO .none) ∨ ∃ a f oa, ZipO h z TI TO a f ∧ h.get? a = some oa ∧ a ≠ z ∧ a ≠ S ∧ a ≠ i1 ∧ a ≠ i2
  ti : IsPair h TI (.ref i1) (.ref i2)
  to_ : ∃ a b, IsPair h TO a b
  h1 : h.IsListIter i1 l1 i
  h2 : h.IsListIter i2 l2 i
  l1 : h.IsList l1 xs
  l2 : h.IsList l2 ys
theorem Zs.keep {h h' : Heap} {z TI TO i1 i2 l1 l2 S : Addr} {xs ys : Array Value} {i : Nat} (x : Zs h z TI TO i1 i2 l1 l2 S xs ys i) (hk : ∀ b o, b ≠ S → h.get? b = some o → h'.get? b = some o)
    (n : z ≠ S ∧ TI ≠ S ∧ TO ≠ S ∧ i1 ≠ S ∧ i2 ≠ S ∧ l1 ≠ S ∧ l2 ≠ S) : Zs h' z TI TO i1 i2 l1 l2 S xs ys i := by
  obtain ⟨n1, n2, n3, n4, n5, n6, n7⟩ := n
  refine ⟨?_, hk _ _ n2 x.ti, ?_, x.h1.at fun o e => hk _ _ n4 e, x.h2.at fun o e => hk _ _ n5 e, x.l1.at fun o e => hk _ _ n6 e, x.l2.at fun o e => hk _ _ n7 e⟩
  · rcases x.st with ⟨e, hz⟩ | ⟨a, f, oa, hz, ha, a1, a2, a3⟩
    · exact .inl ⟨e, hk _ _ n1 hz⟩
    · exact .inr ⟨a, f, oa, hk _ _ n1 hz, hk _ _ a2 ha, a1, a2, a3⟩
  · obtain ⟨a, b, e⟩ := x.to_
    exact ⟨a, b, hk _ _ n3 e⟩
theorem zs_item {z TI TO i1 i2 l1 l2 S : Addr} {xs ys : Array Value} {i : Nat} {x y : Value} {Q : Option Value → Shared → Prop} (D : ZipApart z TI TO i1 i2 l1 l2) (Z : Zs s.heap z TI TO i1 i2 l1 l2 S xs ys i)
    (hS : S < s.heap.objs.size) (hx : xs[i]? = some x) (hy : ys[i]? = some y)
    (hQ : ∀ h', Zs h' z TI TO i1 i2 l1 l2 S xs ys (i + 1) → IsPair h' s.heap.objs.size x y → h'.objs.size = s.heap.objs.size + 1 →
      (∀ c o, c ≠ z → c ≠ TO → c ≠ i1 → c ≠ i2 → s.heap.get? c = some o → h'.get? c = some o) → Q (some (.ref s.heap.objs.size)) { s with heap := h' }) :
    wpAny (model prog w) A (pyNext (.ref z)) Q E s := by
  obtain ⟨to_a, to_b, hTO⟩ := Z.to_
  have lt : ∀ {b : Addr} {o : Obj}, s.heap.get? b = some o → s.heap.objs.size ≠ b := fun e => Nat.ne_of_gt (Heap.lt_size e)
  obtain ⟨oi1, ei1, _⟩ := id Z.h1
  obtain ⟨oi2, ei2, _⟩ := id Z.h2
  rcases Z.st with ⟨e0, hz⟩ | ⟨a, f, oa, hz, ha, a1, a2, a3, a4⟩
  · refine wpAny_pyNext_zip_item D hz Z.ti hTO Z.h1 Z.h2 Z.l1 Z.l2 hx hy fun h' b1 b2 b3 b4 b5 b6 b7 => ?_
    refine hQ h' ⟨.inr ⟨s.heap.objs.size, false, _, b1, b5, lt hz, Nat.ne_of_gt hS, lt ei1, lt ei2⟩, ?_, ⟨_, _, b2⟩, b3, b4, ?_, ?_⟩ b5 b6 b7
    · exact b7 _ _ D.TIz D.TITO D.TIi1 D.TIi2 Z.ti
    · exact Z.l1.at fun o e => b7 _ _ D.l1z D.l1TO D.l1i1 D.l1i2 e
    · exact Z.l2.at fun o e => b7 _ _ D.l2z D.l2TO D.l2i1 D.l2i2 e
  · have hT : s.TypeIs (.ref z) "zip" := ⟨_, hz, rfl⟩
    unfold pyNext
    refine wpAny_bind (wpAny_attempt (wpAny_callSpecial?_slot (name := Str.ofString "__next__") hT PySem.F.slot_zip_next
      (wpAny_call_entry PySem.F.slot_zip_next hT PySem.F.entry_zip_next
        (zip_out_item D hz ha Z.ti Z.h1 Z.h2 Z.l1 Z.l2 hx hy fun h' b1 b3 b4 b5 b6 b7 => wpAny_pure ?_) (PySem.F.args_zip_next_1 _))))
    refine hQ h' ⟨.inr ⟨a, true, oa, b1, b7 _ _ a1 a3 a4 ha, a1, a2, a3, a4⟩, ?_, ⟨_, _, b7 _ _ D.TOz D.TOi1 D.TOi2 hTO⟩, b3, b4, ?_, ?_⟩ b5 b6 fun c o c1 _ c3 c4 e => b7 c o c1 c3 c4 e
    · exact b7 _ _ D.TIz D.TIi1 D.TIi2 Z.ti
    · exact Z.l1.at fun o e => b7 _ _ D.l1z D.l1i1 D.l1i2 e
    · exact Z.l2.at fun o e => b7 _ _ D.l2z D.l2i1 D.l2i2 e
theorem zs_done {z TI TO i1 i2 l1 l2 S : Addr} {xs ys : Array Value} {i : Nat} {Q : Option Value → Shared → Prop} (hh : A.handled = none) (D : ZipApart z TI TO i1 i2 l1 l2) (Z : Zs s.heap z TI TO i1 i2 l1 l2 S xs ys i)
    (hend : xs[i]? = none ∨ ys[i]? = none)
    (hQ : ∀ h', (∀ c o, c ≠ z → c ≠ TO → c ≠ i1 → c ≠ i2 → s.heap.get? c = some o → h'.get? c = some o) → Q none { s with heap := h' }) :
    wpAny (model prog w) A (pyNext (.ref z)) Q E s := by
  obtain ⟨to_a, to_b, hTO⟩ := Z.to_
  rcases Z.st with ⟨e0, hz⟩ | ⟨a, f, oa, hz, ha, a1, a2, a3, a4⟩
  · exact wpAny_pyNext_zip_end hh D hz Z.ti hTO Z.h1 Z.h2 Z.l1 Z.l2 hend hQ
  · have hT : s.TypeIs (.ref z) "zip" := ⟨_, hz, rfl⟩
    unfold pyNext
    refine wpAny_bind (wpAny_attempt (wpAny_callSpecial?_slot (name := Str.ofString "__next__") hT PySem.F.slot_zip_next
      (wpAny_call_entry PySem.F.slot_zip_next hT PySem.F.entry_zip_next (zip_out_end hh D hz ha Z.ti Z.h1 Z.h2 Z.l1 Z.l2 hend fun h' e hk he => ?_) (PySem.F.args_zip_next_1 _))))
    obtain ⟨o, ho, hc⟩ := he
    refine wpAny_bind (wpAny_isInstance (T := "StopIteration") (b := true) ⟨o, ho, hc⟩ isSubtype_stop ?_)
    exact wpAny_pure (hQ _ fun c o c1 _ c3 c4 e => hk c o c1 c3 c4 e)
end
/-- the pairs made so far, at ever higher places -/
structure ZG (xs ys : Array Value) (lo : Addr) (h : Heap) (as : List Addr) : Prop where
  rise : as.Pairwise (· < ·)
  above : ∀ a ∈ as, lo < a
  pairs : ∀ (j : Nat) (a : Addr), as[j]? = some a → ∃ x y, xs[j]? = some x ∧ ys[j]? = some y ∧ IsPair h a x y
theorem ZG.there {xs ys : Array Value} {lo : Addr} {h : Heap} {as : List Addr} (g : ZG xs ys lo h as) {a : Addr} (ha : a ∈ as) : a < h.objs.size := by
  obtain ⟨j, hj⟩ := List.mem_iff_getElem?.mp ha
  obtain ⟨_, _, _, _, e⟩ := g.pairs j a hj
  exact Heap.lt_size e
theorem zip_no_len : typeLookup (.type "zip") "__len__" = pure none := by rw [typeLookup_type, builtinLookup_eq_fast]; kernel_rfl
theorem zip_no_hint : typeLookup (.type "zip") "__length_hint__" = pure none := by rw [typeLookup_type, builtinLookup_eq_fast]; kernel_rfl
section
variable {prog : Program} {w : World} {A : Around} {s : Shared} {R : Result → Shared → Prop} {z TI TO i1 i2 l1 l2 : Addr} {xs ys : Array Value}
theorem zl_loop {S : Addr} (hh : A.handled = none) (D : ZipApart z TI TO i1 i2 l1 l2) (nS : z ≠ S ∧ TI ≠ S ∧ TO ≠ S ∧ i1 ≠ S ∧ i2 ≠ S ∧ l1 ≠ S ∧ l2 ≠ S) {n : Nat} (hn : n ≤ sizeLine) (en : n = min xs.size ys.size) {lo : Addr}
    (hlo : S ≤ lo ∧ z ≤ lo ∧ TO ≤ lo ∧ i1 ≤ lo ∧ i2 ≤ lo) (res : Value) {h₁ : Heap}
    (hR : ∀ h' tk acc c as, (∀ b o, b ≠ S → b ≠ z → b ≠ TO → b ≠ i1 → b ≠ i2 → h₁.get? b = some o → h'.get? b = some o) → h'.get? S = some { cls := .type "list", dict := none, data := .seq acc c, slots := #[] } → as.length = n → ZG xs ys lo h' as →
      acc.toList = as.map Value.ref → R (.ok (.ret res)) { s with heap := h', toks := tk }) :
    ∀ (k i : Nat) (h : Heap) (tk c : Nat) (acc : Array Value) (as : List Addr), n - i = k → i ≤ n → Zs h z TI TO i1 i2 l1 l2 S xs ys i → (∀ b o, b ≠ S → b ≠ z → b ≠ TO → b ≠ i1 → b ≠ i2 → h₁.get? b = some o → h.get? b = some o) →
      h.get? S = some { cls := .type "list", dict := none, data := .seq acc c, slots := #[] } → acc.toList = as.map Value.ref → as.length = i → ZG xs ys lo h as → lo < h.objs.size →
      codeAny (model prog w) A (.builtin "list.extend.loop" ⟨[.ref S, .ref z, res], []⟩) R { s with heap := h, toks := tk } := by
  obtain ⟨n1, n2, n3, n4, n5, n6, n7⟩ := id nS
  obtain ⟨o1, o2, o3, o4, o5⟩ := hlo
  intro k
  induction k with
  | zero =>
    intro i h tk c acc as hk hi Z hkeep hS hacc hal hG hIs
    have hin : i = n := by omega
    refine codeAny_builtin PySem.F.entry_extend_loop ?_
    rw [Around.under_plainId PySem.F.plain_extend_loop _]
    show wpAny _ A.in1 (pyNext (.ref z) >>= _) _ _ _
    have hend : xs[i]? = none ∨ ys[i]? = none := by
      by_cases hx : xs.size ≤ i
      · exact .inl (Array.getElem?_eq_none hx)
      · exact .inr (Array.getElem?_eq_none (by omega))
    refine wpAny_bind (zs_done (s := { s with heap := h, toks := tk }) (A := A.in1) hh D Z hend fun h' he => ?_)
    refine wpAny_pure (hR h' tk acc c as (fun b o q1 q2 q3 q4 q5 e => he b o q2 q3 q4 q5 (hkeep b o q1 q2 q3 q4 q5 e)) (he S _ n1.symm n3.symm n4.symm n5.symm hS) (by omega) ⟨hG.rise, hG.above, fun j a hj => ?_⟩ hacc)
    obtain ⟨x, y, e1, e2, e3⟩ := hG.pairs j a hj
    have ha := hG.above a (List.mem_of_getElem? hj)
    have gt : ∀ {u : Addr}, u ≤ lo → a ≠ u := fun hu => Nat.ne_of_gt (Nat.lt_of_le_of_lt hu ha)
    exact ⟨x, y, e1, e2, he a _ (gt o2) (gt o3) (gt o4) (gt o5) e3⟩
  | succ k ih =>
    intro i h tk c acc as hk hi Z hkeep hS hacc hal hG hIs
    have hlt : i < n := by omega
    have hx : xs[i]? = some (xs[i]'(by omega)) := Array.getElem?_eq_getElem (by omega)
    have hy : ys[i]? = some (ys[i]'(by omega)) := Array.getElem?_eq_getElem (by omega)
    have hsz : acc.size = i := by rw [← Array.length_toList, hacc, List.length_map, hal]
    refine codeAny_builtin PySem.F.entry_extend_loop ?_
    rw [Around.under_plainId PySem.F.plain_extend_loop _]
    show wpAny _ A.in1 (pyNext (.ref z) >>= _) _ _ _
    have hSl : S < h.objs.size := Heap.lt_size hS
    refine wpAny_bind (zs_item (s := { s with heap := h, toks := tk }) (S := S) D Z hSl hx hy fun h' Z' ht hz hkp => ?_)
    dsimp only at ht hz hkp ⊢
    have hS' := hkp S _ n1.symm n3.symm n4.symm n5.symm hS
    have up : ∀ b o, b ≠ S → h'.get? b = some o → (h'.update S (Obj.mapSeq (·.push (Value.ref h.objs.size)))).get? b = some o := fun b o hb e => (Heap.get?_update_other _ _ (Ne.symm hb)).trans e
    show wpAny _ A.in1 (updateSeq S (·.push (Value.ref h.objs.size)) >>= _) _ _ _
    refine wpAny_bind ?_
    refine wpAny_updateSeq hS' rfl (wpAny_pure ⟨plainId_quiet PySem.F.plain_extend_loop _, ih (i + 1) _ tk _ (acc.push (Value.ref h.objs.size)) (as ++ [h.objs.size]) (by omega) hlt (Z'.keep up nS)
      (fun b o q1 q2 q3 q4 q5 e => up b o q1 (hkp b o q2 q3 q4 q5 (hkeep b o q1 q2 q3 q4 q5 e))) (Heap.get?_update_self _ hS' rfl) (by rw [Array.toList_push, hacc, List.map_append]; rfl) (by rw [List.length_append, hal]; rfl) ⟨?_, ?_, ?_⟩ ?_⟩) (by rw [hsz]; omega) (by show (acc.push (Value.ref h.objs.size)).size ≤ sizeLine + 1; rw [Array.size_push, hsz]; omega)
    · refine List.pairwise_append.mpr ⟨hG.rise, List.pairwise_singleton _ _, fun a ha b hb => ?_⟩
      rw [List.mem_singleton.mp hb]
      exact hG.there ha
    · intro a ha
      rcases List.mem_append.mp ha with ha | ha
      · exact hG.above a ha
      · rw [List.mem_singleton.mp ha]; exact hIs
    · intro j b hj
      rcases Nat.lt_trichotomy j as.length with h1 | h1 | h1
      · rw [List.getElem?_append_left h1] at hj
        obtain ⟨x', y', e1, e2, e3⟩ := hG.pairs j b hj
        have hb := hG.above b (List.mem_of_getElem? hj)
        have gt : ∀ {u : Addr}, u ≤ lo → b ≠ u := fun hu => Nat.ne_of_gt (Nat.lt_of_le_of_lt hu hb)
        exact ⟨x', y', e1, e2, up b _ (gt o1) (hkp b _ (gt o2) (gt o3) (gt o4) (gt o5) e3)⟩
      · subst h1
        have hb : h.objs.size = b := by simpa using hj
        subst hb
        exact ⟨_, _, by rw [hal]; exact hx, by rw [hal]; exact hy, up _ _ (Nat.ne_of_gt hSl) ht⟩
      · have hnone : (as ++ [h.objs.size])[j]? = none := List.getElem?_eq_none (by rw [List.length_append, List.length_singleton]; omega)
        rw [hnone] at hj; cases hj
    · have e : (h'.update S (Obj.mapSeq (·.push (Value.ref h.objs.size)))).get? h.objs.size = _ := up _ _ (Nat.ne_of_gt hSl) ht
      exact Nat.lt_trans hIs (Heap.lt_size e)
theorem zl_extend {S lo : Addr} (hh : A.handled = none) (D : ZipApart z TI TO i1 i2 l1 l2) (nS : z ≠ S ∧ TI ≠ S ∧ TO ≠ S ∧ i1 ≠ S ∧ i2 ≠ S ∧ l1 ≠ S ∧ l2 ≠ S) (Z : Zs s.heap z TI TO i1 i2 l1 l2 S xs ys 0) (hz : IsZip s.heap z TI TO .none) (res : Value) (c₀ : Nat)
    (hlo : S ≤ lo ∧ z ≤ lo ∧ TO ≤ lo ∧ i1 ≤ lo ∧ i2 ≤ lo) (hlt : lo < s.heap.objs.size) (hS : s.heap.get? S = some { cls := .type "list", data := .seq #[] c₀ }) (hn : min xs.size ys.size ≤ sizeLine)
    (hR : ∀ h' tk acc c as, (∀ b o, b ≠ S → b ≠ z → b ≠ TO → b ≠ i1 → b ≠ i2 → s.heap.get? b = some o → h'.get? b = some o) → h'.get? S = some { cls := .type "list", dict := none, data := .seq acc c, slots := #[] } → as.length = min xs.size ys.size → ZG xs ys lo h' as →
      acc.toList = as.map Value.ref → R (.ok (.ret res)) { s with heap := h', toks := tk }) :
    wpAny (model prog w) A.in1 (Builtin.List.listExtendWith (.ref S) (.ref z) res)
      (fun fin s' => match fin with | .done f => R (.ok f) s' | .again c' => c'.quiet = true ∧ codeAny (model prog w) A c' R s') (fun e s' => R (.error e) s') s := by
  have hT : s.TypeIs (.ref z) "zip" := ⟨_, hz, rfl⟩
  unfold Builtin.List.listExtendWith
  refine wpAny_bind (wpAny_typeOf (T := "zip") hT ?_)
  have h1 : Builtin.List.listSameRef (.ref S) (.ref z) = false := by simp [Builtin.List.listSameRef, nS.1.symm]
  have h2 : (Value.type "zip" == Value.type "list") = false := by decide
  have h3 : (Value.type "zip" == Value.type "tuple") = false := by decide
  simp only [h1, h2, h3, Bool.or_false, Bool.false_eq_true, if_false]
  refine wpAny_bind (wpAny_pyIter_zip hz ?_)
  refine wpAny_bind (wpAny_holding ?_)
  unfold Builtin.List.listLengthHint
  refine wpAny_bind (wpAny_specialOf hT zip_no_len ?_)
  show wpAny _ A.in1 (specialOf (Value.ref z) (Str.ofString "__length_hint__") >>= _) _ _ _
  refine wpAny_bind (wpAny_specialOf hT zip_no_hint ?_)
  refine wpAny_pure ?_
  show wpAny _ A.in1 (rule "list.extend.makes-room" >>= fun _ => Builtin.List.listTouch (.ref S) >>= fun _ =>
    again (.builtin "list.extend.loop" ⟨[.ref S, .ref z, res], []⟩)) _ _ _
  refine wpAny_bind (wpAny_rule ?_)
  refine wpAny_bind ?_
  show wpAny _ A.in1 (updateSeq S (·.push .none) >>= fun _ => updateSeq S (·.pop)) _ _ _
  refine wpAny_bind (wpAny_updateSeq hS rfl ?_)
  have hS₂ := Heap.get?_update_self (Obj.mapSeq (·.push Value.none)) hS rfl
  refine wpAny_updateSeq (hz := by seq_fits) hS₂ rfl ?_
  have hS₃ := Heap.get?_update_self (Obj.mapSeq (·.pop)) hS₂ rfl
  have oth : ∀ b o, b ≠ S → s.heap.get? b = some o → ((s.heap.update S (Obj.mapSeq (·.push Value.none))).update S (Obj.mapSeq (·.pop))).get? b = some o :=
    fun b o hb e => (Heap.get?_update_other _ _ (Ne.symm hb)).trans ((Heap.get?_update_other _ _ (Ne.symm hb)).trans e)
  refine wpAny_pure ⟨plainId_quiet F.plain_extend_loop _, zl_loop (s := s) (h₁ := s.heap) hh D nS hn rfl hlo res hR (min xs.size ys.size) 0 _ _ _ #[] [] (Nat.sub_zero _) (Nat.zero_le _) (Z.keep oth nS) (fun b o q1 _ _ _ _ e => oth b o q1 e) hS₃ rfl rfl ⟨List.Pairwise.nil, (fun _ ha => nomatch ha), (fun j a hj => by simp at hj)⟩ ?_⟩
  rw [Heap.size_update, Heap.size_update]
  exact hlt
theorem zl_init {S lo : Addr} (hh : A.handled = none) (D : ZipApart z TI TO i1 i2 l1 l2) (nS : z ≠ S ∧ TI ≠ S ∧ TO ≠ S ∧ i1 ≠ S ∧ i2 ≠ S ∧ l1 ≠ S ∧ l2 ≠ S) (Z : Zs s.heap z TI TO i1 i2 l1 l2 S xs ys 0) (hz : IsZip s.heap z TI TO .none)
    (hlo : S ≤ lo ∧ z ≤ lo ∧ TO ≤ lo ∧ i1 ≤ lo ∧ i2 ≤ lo) (hlt : lo < s.heap.objs.size) (hS : s.heap.get? S = some { cls := .type "list", data := .seq #[] }) (hn : min xs.size ys.size ≤ sizeLine)
    (hR : ∀ h' tk acc c as, (∀ b o, b ≠ S → b ≠ z → b ≠ TO → b ≠ i1 → b ≠ i2 → s.heap.get? b = some o → h'.get? b = some o) → h'.get? S = some { cls := .type "list", dict := none, data := .seq acc c, slots := #[] } → as.length = min xs.size ys.size → ZG xs ys lo h' as →
      acc.toList = as.map Value.ref → R (.ok (.ret .none)) { s with heap := h', toks := tk }) :
    wpAny (model prog w) A.in1 (Builtin.«list.__init__» ⟨[.ref S, .ref z], []⟩)
      (fun fin s' => match fin with | .done f => R (.ok f) s' | .again c' => c'.quiet = true ∧ codeAny (model prog w) A c' R s') (fun e s' => R (.error e) s') s := by
  show wpAny _ _ (do let old ← Builtin.List.listItems (.ref S); Builtin.List.listUpdate (.ref S) (fun _ => #[]); letGo old.toList.reverse; Builtin.List.listExtendWith (.ref S) (.ref z) .none) _ _ s
  refine wpAny_bind ?_
  unfold Builtin.List.listItems
  refine wpAny_bind (wpAny_seqItems hS rfl (wpAny_pure ?_))
  show wpAny _ _ (updateSeq S (fun _ => #[]) >>= fun _ => letGo (#[] : Array Value).toList.reverse >>= fun _ => Builtin.List.listExtendWith (.ref S) (.ref z) .none) _ _ s
  refine wpAny_bind (wpAny_updateSeq hS rfl ?_)
  have hS₂ := Heap.get?_update_self (Obj.mapSeq (fun _ => (#[] : Array Value))) hS rfl
  have oth : ∀ b o, b ≠ S → s.heap.get? b = some o → (s.heap.update S (Obj.mapSeq (fun _ => (#[] : Array Value)))).get? b = some o :=
    fun b o hb e => (Heap.get?_update_other _ _ (Ne.symm hb)).trans e
  refine wpAny_bind (wpAny_letGo ?_)
  refine zl_extend hh D nS (Z.keep oth nS) (oth _ _ nS.1 hz) .none _ hlo (by rw [Heap.size_update]; exact hlt) hS₂ hn (fun h' tk acc c as hk hS' hl hG hacc => ?_)
  exact hR h' tk acc c as (fun b o q1 q2 q3 q4 q5 e => hk b o q1 q2 q3 q4 q5 (oth b o q1 e)) hS' hl hG hacc
end
section
variable {prog : Program} {w : World} {A : Around} {E : Value → Shared → Prop} {s : Shared}
/-- list(zip(a, b)) of two lists -/
theorem zl_call {l1 l2 : Addr} {xs ys : Array Value} {Q : Value → Shared → Prop} (hh : A.handled = none) (hl1 : s.heap.IsList l1 xs) (hl2 : s.heap.IsList l2 ys) (hn : min xs.size ys.size ≤ sizeLine)
    (hQ : ∀ h' tk acc c as p, s.heap.objs.size ≤ p → (∀ b o, s.heap.get? b = some o → h'.get? b = some o) → h'.get? p = some { cls := .type "list", dict := none, data := .seq acc c, slots := #[] } → as.length = min xs.size ys.size → ZG xs ys p h' as →
      acc.toList = as.map Value.ref → Q (.ref p) { s with heap := h', toks := tk }) :
    wpAny (model prog w) A (call (.type "zip") [.ref l1, .ref l2]) (fun r s' => wpAny (model prog w) A (call (.type "list") [r]) Q E s') E s := by
  refine call_zip_2 hl1 hl2 fun h' hz hTI hTO hi1 hi2 hsz hk => ?_
  obtain ⟨o1, e1, _⟩ := id hl1
  obtain ⟨o2, e2, _⟩ := id hl2
  have lt1 : l1 < s.heap.objs.size := Heap.lt_size e1
  have lt2 : l2 < s.heap.objs.size := Heap.lt_size e2
  have hl1' : h'.IsList l1 xs := hl1.at fun o e => hk _ _ e
  have hl2' : h'.IsList l2 ys := hl2.at fun o e => hk _ _ e
  generalize hB : s.heap.objs.size = B at *
  have gne : ∀ {u : Addr} (n : Nat), u < B → u ≠ B + n := fun n h => Nat.ne_of_lt (Nat.lt_of_lt_of_le h (Nat.le_add_right _ _))
  have gn0 : ∀ {u : Addr}, u < B → u ≠ B := fun h => Nat.ne_of_lt h
  have D : ZipApart (B + 4) (B + 2) (B + 3) B (B + 1) l1 l2 :=
    ⟨by simp, by simp, by simp, by simp, by simp, by simp, by simp, by simp, by simp, by simp, gne 4 lt1, gne 3 lt1, gn0 lt1, gne 1 lt1, gne 4 lt2, gne 3 lt2, gn0 lt2, gne 1 lt2⟩
  refine callType_codes (Q₁ := fun obj s₁ => obj = .ref h'.objs.size ∧ s₁ = { s with heap := h'.push { cls := .type "list", data := .seq #[] } }) PySem.F.called_list (PySem.F.typeCall_list_1 _) PySem.F.entry_list_init
    (code_list_new _ ⟨rfl, rfl⟩) fun obj s₁ h₁ => ?_
  obtain ⟨rfl, rfl⟩ := h₁
  have hS : (h'.push { cls := .type "list", data := .seq #[] }).get? h'.objs.size = some { cls := .type "list", data := .seq #[] } := Heap.get?_push_size _ rfl
  have hS2 : (h'.push { cls := .type "list", data := .seq #[] }).objs.size = h'.objs.size + 1 := Heap.size_push ..
  have up : ∀ b o, h'.get? b = some o → (h'.push { cls := .type "list", data := .seq #[] }).get? b = some o := fun b o e => Heap.get?_push_of_some _ e
  generalize hP : h'.objs.size = p at *
  subst hsz
  have ne5 : ∀ {u : Addr} , u < B + 5 → u ≠ B + 5 := fun h => Nat.ne_of_lt h
  have Z : Zs (h'.push { cls := .type "list", data := .seq #[] }) (B + 4) (B + 2) (B + 3) B (B + 1) l1 l2 (B + 5) xs ys 0 :=
    ⟨.inl ⟨rfl, up _ _ hz⟩, up _ _ hTI, ⟨_, _, up _ _ hTO⟩, hi1.at fun o e => up _ _ e, hi2.at fun o e => up _ _ e, hl1'.at fun o e => up _ _ e, hl2'.at fun o e => up _ _ e⟩
  refine ⟨⟨_, hS, rfl⟩, PySem.F.args_list_init_2 _ _, zl_init (s := { s with heap := h'.push { cls := .type "list", data := .seq #[] } }) (lo := B + 5) (A := A.in1) hh D
    ⟨by simp, by simp, by simp, by simp, by simp, gne 5 lt1, gne 5 lt2⟩ Z (up _ _ hz) ⟨Nat.le_refl _, by simp, by simp, by simp, by simp⟩ (by show B + 5 < _; rw [hS2]; exact Nat.lt_succ_self _) hS hn (fun h'' tk acc c as hk2 hS' hl hG hacc => ?_)⟩
  refine ⟨rfl, hQ h'' tk acc c as (B + 5) (by simp) (fun b o e => ?_) hS' hl hG hacc⟩
  have hb : b < B := by rw [← hB]; exact Heap.lt_size e
  exact hk2 b o (gne 5 hb) (gne 4 hb) (gne 3 hb) (gn0 hb) (gne 1 hb) (up _ _ (hk _ _ e))
end
end CB
set_option Elab.async false
set_option linter.all false
set_option maxRecDepth 100000
set_option maxHeartbeats 2000000
namespace CB
open PySem PySem.Spec
open PyProof.Rows L2

/-! ### list(zip(a, b)), list(d.values()) -/
def zipK (ns : List Int) (ys : List V) : List (Key × V) := (ns.zip ys).map fun p => (.inl p.1, p.2)
theorem zip_kv : ∀ {ns : List Int} {ys : List V} {is_ us : List Value}, Vals (ns.map V.int) is_ → Vals ys us → KV (zipK ns ys) ((ns.zip us).map fun p => ((.inl p.1 : Key), p.2))
  | [], _, _, _, _, _ => Paired.nil
  | _ :: _, [], _, _, _, b => by cases b; exact Paired.nil
  | n :: ns, y :: ys, _, _, .cons r t, .cons r2 t2 => Paired.cons ⟨rfl, r2⟩ (zip_kv t t2)
section
variable {X : Cx}
/-- pairs that list(zip(..)) made, told by the heap -/
theorem zip_laid {pins : List (Addr × Obj)} {σ : L2.St} {H : Hp} {s : Shared} {h' : Heap} {tk : Nat} {ns : List Int} {ys : List V} {is_ us : List Value} {acc : Array Value} {c : Nat} {as : List Addr} {S : Addr} (I : Inv X pins σ H s)
    (hv : Vals (ns.map V.int) is_) (hw : Vals ys us) (hz : ns.length ≤ sizeLine) (hle : s.heap.objs.size ≤ S)
    (hk : ∀ b o, s.heap.get? b = some o → h'.get? b = some o) (hS : h'.get? S = some { cls := .type "list", dict := none, data := .seq acc c, slots := #[] }) (hl : as.length = min is_.toArray.size us.toArray.size)
    (hG : ZG is_.toArray us.toArray S h' as) (hacc : acc.toList = as.map Value.ref) :
    ∃ H' : Hp, (∀ b o, H b = some o → H' b = some o) ∧ H S = none ∧ H' S = some (.lst (as.map V.ref)) ∧ Paired (fun (t : Addr) (q : Key × V) => H' t = some (.tup [kV q.1, q.2])) as (zipK ns ys) ∧ Inv X pins σ H' { s with heap := h', toks := tk } := by
  have l1 : is_.length = ns.length := by rw [← hv.length, List.length_map]
  have l2 : us.length = ys.length := hw.length.symm
  have la : as.length = (zipK ns ys).length := by
    rw [hl]
    unfold zipK
    rw [List.length_map, List.length_zip]
    simp only [List.size_toArray]
    rw [l1, l2]
  have nd : as.Nodup := hG.rise.imp fun h => Nat.ne_of_lt h
  have hSn : S ∉ as := fun z => Nat.lt_irrefl _ (hG.above _ z)
  have big : ∀ t ∈ as, s.heap.objs.size ≤ t := fun t ht => Nat.le_trans hle (Nat.le_of_lt (hG.above t ht))
  have newT : ∀ t ∈ as, H t = none := fun t ht => I.hok.fresh (big t ht)
  have newS : H S = none := I.hok.fresh hle
  generalize hg : LiI.putT (upd H S (.lst (as.map V.ref))) as (zipK ns ys) = G
  have tt : Paired (fun (t : Addr) (p : Key × V) => G t = some (.tup [kV p.1, p.2])) as (zipK ns ys) := by rw [← hg]; exact LiI.putT_at as _ _ la nd
  have gS : G S = some (.lst (as.map V.ref)) := by rw [← hg, LiI.putT_off as _ _ hSn, upd_same]
  have gO : ∀ b, b ∉ as → b ≠ S → G b = H b := fun b h1 h2 => by rw [← hg, LiI.putT_off as _ _ h1, upd_ne h2]
  have old : ∀ b o, s.heap.get? b = some o → G b = H b := fun b o e =>
    gO b (fun z => Nat.lt_irrefl _ (Nat.lt_of_lt_of_le (Heap.lt_size e) (big b z))) (fun z => Nat.lt_irrefl _ (Nat.lt_of_lt_of_le (z ▸ Heap.lt_size e) hle))
  have up : ∀ b u, H b = some u → G b = some u := fun b u e => by
    have h1 : b ∉ as := fun z => by rw [newT b z] at e; cases e
    have h2 : b ≠ S := fun z => by rw [z, newS] at e; cases e
    rw [gO b h1 h2, e]
  have zkv := zip_kv hv hw
  refine ⟨G, up, newS, gS, tt, ?_⟩
  have inv : Inv X pins σ G { s with heap := h', toks := tk } := by
    refine I.call' (ch := []) rfl ⟨fun b o q _ _ _ => hk b o q, fun b o q _ _ _ => ⟨o.slots, hk b o q⟩, fun b o q n _ => ?_, fun b o q _ => ⟨o, hk b o q⟩, fun b xs q => up b _ q, fun b o u q => up b _ q, fun b ps q => ⟨#[], by rw [up b _ q]; simp⟩⟩ (fun b u q => ?_) I.bare fun b z => by simp at z
    · rw [old b o q]; exact n
    by_cases m : b ∈ as
    · obtain ⟨j, pk, e1, e2, e3⟩ := LiI.paired_ix tt m
      obtain ⟨x, y, f1, f2, f3⟩ := hG.pairs j b e1
      obtain ⟨qv, g1, g2, g3⟩ := LiI.paired_get zkv e2
      cases e3.symm.trans q
      rw [List.getElem?_map] at g1
      obtain ⟨pr, hpr, rfl⟩ := Option.map_eq_some_iff.mp g1
      rw [List.getElem?_zip_eq_some] at hpr
      have hxv : is_[j]? = some x := by simpa using f1
      have huv : us[j]? = some y := by simpa using f2
      have e5 : pr.2 = y := Option.some.inj (hpr.2.symm.trans huv)
      have rx : RelV (.int pr.1) x := by
        obtain ⟨u, h1, h2⟩ := Vals.get hv (i := j) (x := .int pr.1) (by rw [List.getElem?_map, hpr.1]; rfl)
        rw [hxv] at h1; cases h1; exact h2
      have rk : RelV (kV pk.1) x := by rw [g2]; exact rx
      exact ⟨by show 2 ≤ sizeLine; decide, [x, y], .cons rk (.cons (by rw [← e5]; exact g3) .nil), ⟨_, f3, rfl, _, rfl⟩⟩
    · by_cases m2 : b = S
      · subst m2
        cases gS.symm.trans q
        refine ⟨by rw [List.length_map, hl]; simp only [List.size_toArray]; omega, acc.toList, c, by rw [hacc]; exact LiI.vals_refs as, ?_⟩
        rw [Array.toArray_toList]; exact hS
      · rw [gO b m m2] at q
        exact (I.hok b u q).stay (fun d v _ y => hk d v y) (fun d y => up d _ y) fun d xs y => up d _ y
  exact inv
def rZipL (K : PySem.W.Frag) : List V → Hp → VK → Prop := fun vs H Q => ∃ (a b : Addr) (ns : List Int) (ys : List V), vs = [.ref a, .ref b] ∧ SqL K H a (ns.map V.int) ∧ SqL K H b ys ∧
  ∀ (H' : Hp) (p : Addr) (ts : List Addr), (∀ b o, H b = some o → H' b = some o) → H p = none → H' p = some (.lst (ts.map V.ref)) → Paired (fun (t : Addr) (q : Key × V) => H' t = some (.tup [kV q.1, q.2])) ts (zipK ns ys) → Q (.ref p) H'
def tListZip (K : PySem.W.Frag) (ta : TA) : TE := fun σ H Q => ta σ H fun vs H1 => rZipL K vs H1 Q
theorem pe_listZip (K : PySem.W.Frag) {e e2 : Expr} {ta : TA} {p p2 pos pos2 : Pos} (hc : X.calm = true) (hg : Gl X "list") (hm : X.mg "list" = none) (hg2 : Gl X "zip") (hm2 : X.mg "zip" = none)
    (ha : PA X [e, e2] ta)
    (hs : starEach [e, e2] X.env = (false, eval e X.env) :: starEach [e2] X.env := by rfl) (hpl : (backTo pos2 (starEach [e2] X.env)).any (·.1) = false := by rfl)
    (na : starEach [.Call (.Name "zip" p2) [e, e2] [] pos2] X.env = (false, eval (.Call (.Name "zip" p2) [e, e2] [] pos2) X.env) :: starEach [] X.env := by rfl) (hK : X.K = K := by rfl) :
    PE X (.Call (.Name "list" p) [.Call (.Name "zip" p2) [e, e2] [] pos2] [] pos) (tListZip K ta) := by
  subst hK
  constructor
  intro pins s σ H Q I h
  refine Call_ (ld_blt I hg hm PyProof.Rows.boot_list (PyProof.Rows.callWith_type1 (PyProof.Rows.args_cons (Call_ (ld_blt I hg2 hm2 PyProof.Rows.boot_zip (PyProof.Rows.callWith_type1 (thn (ha.run pos2 pins s σ H _ I h) ?_) hs hpl))) na) na))
  rintro us s1 ⟨vs, H1, I1, r1, a, b, ns, ys, rfl, ga, gb, q⟩
  obtain ⟨u, w, e12, ra, rb⟩ : ∃ u w, us = [u, w] ∧ u = .ref a ∧ w = .ref b := by
    cases r1 with
    | cons r rr => cases rr with
      | cons r' rr => cases rr; exact ⟨_, _, rfl, r, r'⟩
  subst e12; subst ra; subst rb
  obtain ⟨i1, v1, p1, z1⟩ := I1.list ga
  obtain ⟨i2, v2, q2, z2⟩ := I1.list gb
  rw [List.length_map] at z1
  have hmin : min i1.toArray.size i2.toArray.size ≤ sizeLine := by
    have := v1.length
    rw [List.length_map] at this
    simp only [List.size_toArray]
    omega
  refine thn (zl_call (I1.ok.hd hc) p1.isList q2.isList hmin fun h' tk acc c as S hle hk hS hl hG hacc => ?_) fun _ _ y => PyProof.Rows.args_nil y
  obtain ⟨G, k1, k2, k3, k4, J⟩ := zip_laid (tk := tk) I1 v1 v2 z1 hle hk hS hl hG hacc
  exact ⟨.ref S, G, J, rfl, q G S as k1 k2 k3 k4⟩
def rValsL : V → Hp → VK → Prop := fun x H Q => ∃ (d : Addr) (kvs : List (Key × V)), x = .ref d ∧ H d = some (.dK kvs) ∧ ∀ q, H q = none → Q (.ref q) (upd H q (.lst (kvs.map (·.2))))
def tListVals (te : TE) : TE := fun σ H Q => te σ H fun x H1 => rValsL x H1 Q
theorem pe_listVals {e : Expr} {te : TE} {p apos cpos pos : Pos} (hc : X.calm = true) (hg : Gl X "list") (hm : X.mg "list" = none) (he : PE X e te) (hbase : attributeBase e "values" X.env (eval e X.env) = eval e X.env := by rfl) (hline : (apos.endLine == cpos.line) = true := by rfl)
    (hs : starEach [.Call (.Attribute e "values" apos) [] [] cpos] X.env = (false, eval (.Call (.Attribute e "values" apos) [] [] cpos) X.env) :: starEach [] X.env := by rfl) :
    PE X (.Call (.Name "list" p) [.Call (.Attribute e "values" apos) [] [] cpos] [] pos) (tListVals te) := by
  constructor
  intro pins s σ H Q I h
  refine wpAny_Call_Name_kw (ld_blt I hg hm PyProof.Rows.boot_list ?_)
  refine PyProof.Rows.callWith_type1 ?_ hs rfl
  refine PyProof.Rows.args_cons (he := hs) ?_
  refine wpAny_Call_method (T := "dict") (id := "dict.values") hbase rfl hline F.plainAttrs_dict F.slot_dict_values F.type_dict_values (thn (he.run pins s σ H _ I h) ?_)
  rintro u s1 ⟨x, H1, I1, rx, d, kvs, rfl, hd, q⟩
  obtain rfl : u = Value.ref d := rx
  obtain ⟨hz, hs0, vs, kv, hdo⟩ := I1.hok d _ hd
  obtain ⟨ep, hat⟩ := hdo.dictAt
  have lk : kvs.length = vs.length := Paired.length kv
  have I2 : Inv X pins σ H1 { s1 with heap := s1.heap.push { cls := .type "dict_values", data := .fields #[.ref d] } } := I1.kept (t' := s1.toks) fun b ob q => Heap.get?_push_of_some _ q
  refine ⟨hdo.typeIs, hdo.mapOf.noDict, ?_⟩
  show wpAny _ _ (callWith cpos (.builtin "dict.values") [.ref d] [] []) _ X.xe s1
  refine method_meetsIn F.slot_dict_values F.entry_dict_values rfl (PySem.evalArgs_none ⟨rfl, hdo.typeIs, F.args_dict_values_1 _, _, meets_dict_values (mixKind X.prog X.w) d hs0, ⟨vs, hdo⟩, ?_⟩)
  refine PyProof.Rows.args_nil ?_
  refine PySem.W.kdl_call (PySem.W.kdl_values (knd := mixKind X.prog X.w) (kvs := vs) (ep := ep) (d := d)) (I1.ok.hd hc) ⟨⟨_, Heap.get?_push_size _ rfl, rfl, rfl⟩, hat.push _⟩ (by omega) fun h' tk acc c hk hS hacc => ?_
  refine ⟨.ref _, upd H1 _ (.lst (kvs.map (·.2))), I2.laid hk (Nat.le_refl _) (show ObjOk X.prog X.w _ _ _ (.lst (kvs.map (·.2))) from ⟨by rw [List.length_map]; exact hz, acc.toList, c, ?_, ?_⟩), rfl, q _ (I2.hok.fresh (Nat.le_refl _))⟩
  · refine vals_of_at (by rw [List.length_map, lk, ← hacc.1]; simp) fun j x w h1 h2 => ?_
    obtain ⟨k, hky⟩ := hacc.2 j w (by rw [← Array.getElem?_toList]; exact h2)
    rw [List.getElem?_map] at h1
    obtain ⟨pr, hpr, rfl⟩ := Option.map_eq_some_iff.mp h1
    obtain ⟨y, g1, g2, g3⟩ := LiI.paired_get kv hpr
    rw [hky] at g1
    cases g1
    exact g3
  · rw [Array.toArray_toList]; exact hS
end
end CB
set_option Elab.async false
set_option linter.all false
set_option maxRecDepth 100000
set_option maxHeartbeats 4000000
namespace CB
open PySem PySem.Spec
open PyProof.Rows L2
open PySem.W (Datum Tup DatumOrd listLt)
/-! ### the house that is named: the plain law -/
theorem str_tri {a b : Str} (h : (DatumOrd.lt b a : Bool) = false) (n : a ≠ b) : (DatumOrd.lt a b : Bool) = true := by
  have h1 : ¬ (b.cps.toList < a.cps.toList) := of_decide_eq_false h
  refine decide_eq_true ?_
  refine Classical.byContradiction fun h2 => n ?_
  have e := List.le_antisymm (List.not_lt.mp h1) (List.not_lt.mp h2)
  cases a; cases b
  simp only [Str.mk.injEq]
  exact Array.toList_inj.mp e
theorem list_tri : ∀ {xs ys : List Str}, listLt ys xs = false → xs ≠ ys → listLt xs ys = true
  | [], [], _, n => absurd rfl n
  | [], _ :: _, _, _ => rfl
  | _ :: _, [], h, _ => by cases h
  | x :: xs, y :: ys, h, n => by
    unfold listLt at h ⊢
    by_cases e : x = y
    · subst e
      rw [if_pos rfl] at h ⊢
      exact list_tri h fun z => n (by rw [z])
    · rw [if_neg (fun z => e z.symm)] at h
      rw [if_neg e]
      exact str_tri h e
/-- the name of a kind -/
def rho : List Int → List Str → Int → Str
  | n :: ns, s :: ss, k => if n = k then s else rho ns ss k
  | _, _, _ => ⟨#[]⟩
theorem rho_val : ∀ {ns : List Int} {ss : List Str} {k : Int}, ns.length = ss.length → k ∈ ns → valV (zipK ns (ss.map V.str)) (.inl k) = some (.str (rho ns ss k))
  | [], _, _, _, h => by cases h
  | _ :: _, [], _, h, _ => by simp at h
  | n :: ns, s :: ss, k, hl, h => by
    have e : zipK (n :: ns) ((s :: ss).map V.str) = (.inl n, .str s) :: zipK ns (ss.map V.str) := rfl
    rw [e]
    unfold valV
    rw [List.find?_cons]
    by_cases q : n = k
    · subst q
      simp [rho]
    · have d : decide ((Sum.inl n : Key) = .inl k) = false := decide_eq_false fun z => q (Sum.inl.inj z)
      dsimp only
      rw [d]
      have hk : k ∈ ns := by
        rcases List.mem_cons.mp h with z | z
        · exact absurd z.symm q
        · exact z
      have ih := rho_val (k := k) (Nat.succ.inj hl) hk
      unfold valV at ih
      rw [show rho (n :: ns) (s :: ss) k = rho ns ss k by rw [rho, if_neg q]]
      exact ih
theorem rho_map : ∀ {ns : List Int} {ss : List Str}, ns.length = ss.length → ns.Nodup → ns.map (rho ns ss) = ss
  | [], [], _, _ => rfl
  | [], _ :: _, h, _ => by simp at h
  | _ :: _, [], h, _ => by simp at h
  | n :: ns, s :: ss, hl, nd => by
    rw [List.nodup_cons] at nd
    rw [List.map_cons]
    have h1 : rho (n :: ns) (s :: ss) n = s := by rw [rho, if_pos rfl]
    rw [h1]
    congr 1
    have ih := rho_map (Nat.succ.inj hl) nd.2
    refine Eq.trans (List.map_congr_left fun k hk => ?_) ih
    rw [rho, if_neg (fun z => nd.1 (by rw [z]; exact hk))]
theorem inj_of_nodup {α β : Type} {f : α → β} : ∀ {xs : List α}, (xs.map f).Nodup → ∀ a ∈ xs, ∀ b ∈ xs, f a = f b → a = b
  | [], _, _, h, _, _, _ => by cases h
  | x :: xs, nd, a, ha, b, hb, e => by
    rw [List.map_cons, List.nodup_cons] at nd
    rcases List.mem_cons.mp ha with ea | ha'
    · rcases List.mem_cons.mp hb with eb | hb'
      · rw [ea, eb]
      · exact (nd.1 (List.mem_map.mpr ⟨b, hb', by rw [← e, ea]⟩)).elim
    · rcases List.mem_cons.mp hb with eb | hb'
      · exact (nd.1 (List.mem_map.mpr ⟨a, ha', by rw [e, eb]⟩)).elim
      · exact inj_of_nodup nd.2 a ha' b hb' e
theorem map_inj_on {α β : Type} {f : α → β} {S : List α} (hf : ∀ a ∈ S, ∀ b ∈ S, f a = f b → a = b) : ∀ {xs ys : List α}, (∀ x ∈ xs, x ∈ S) → (∀ y ∈ ys, y ∈ S) → xs.map f = ys.map f → xs = ys
  | [], [], _, _, _ => rfl
  | [], _ :: _, _, _, e => by simp at e
  | _ :: _, [], _, _, e => by simp at e
  | x :: xs, y :: ys, hx, hy, e => by
    rw [List.map_cons, List.map_cons, List.cons.injEq] at e
    rw [hf x (hx x (by simp)) y (hy y (by simp)) e.1, map_inj_on hf (fun a h => hx a (by simp [h])) (fun a h => hy a (by simp [h])) e.2]
theorem nodup_map_on {α β : Type} {f : α → β} : ∀ {xs : List α}, (∀ a ∈ xs, ∀ b ∈ xs, f a = f b → a = b) → xs.Nodup → (xs.map f).Nodup
  | [], _, _ => List.nodup_nil
  | x :: xs, hf, nd => by
    rw [List.nodup_cons] at nd
    rw [List.map_cons, List.nodup_cons]
    refine ⟨fun h => ?_, nodup_map_on (fun a ha b hb => hf a (by simp [ha]) b (by simp [hb])) nd.2⟩
    obtain ⟨y, hy, e⟩ := List.mem_map.mp h
    have := hf y (by simp [hy]) x (by simp) e
    exact nd.1 (this ▸ hy)
theorem asc_ext : ∀ {xs ys : List Int}, xs.Pairwise (· < ·) → ys.Pairwise (· < ·) → (∀ x, x ∈ xs ↔ x ∈ ys) → xs = ys
  | [], [], _, _, _ => rfl
  | [], y :: _, _, _, h => absurd ((h y).mpr (by simp)) (by simp)
  | x :: _, [], _, _, h => absurd ((h x).mp (by simp)) (by simp)
  | x :: xs, y :: ys, h1, h2, h => by
    rw [List.pairwise_cons] at h1 h2
    have e : x = y := by
      rcases List.mem_cons.mp ((h x).mp (by simp)) with z | z
      · exact z
      · rcases List.mem_cons.mp ((h y).mpr (by simp)) with z2 | z2
        · exact z2.symm
        · have a := h2.1 x z
          have b := h1.1 y z2
          omega
    subst e
    rw [asc_ext h1.2 h2.2 fun t => ⟨fun ht => ?_, fun ht => ?_⟩]
    · rcases List.mem_cons.mp ((h t).mp (by simp [ht])) with z | z
      · have := h1.1 t ht; omega
      · exact z
    · rcases List.mem_cons.mp ((h t).mpr (by simp [ht])) with z | z
      · have := h2.1 t ht; omega
      · exact z
def menu : List Str := ["a", "b", "c", "d", "e", "ab", "ba", "zz", "call", "put", "drop", "kinds", "abcdef", "x", "zzzzzz"]
theorem menu_nd : menu.Nodup := by decide +kernel
theorem menu_nm : ∀ x ∈ menu, Nm x := by unfold Nm; decide +kernel
theorem vh_of {m : Nat} {kept : List (List Int)} {nums : List Int} {names : List Str} {cs : List (List Str)} (m6 : m ≤ 6) (k0 : kept ≠ []) (k8 : kept.length ≤ 8) (knd : kept.Nodup) (ci : ∀ c ∈ kept, Ci m c)
    (nasc : nums.Pairwise (· < ·)) (nmem : ∀ x, x ∈ nums ↔ (0 ≤ x ∧ x < m) ∧ ∃ c ∈ kept, x ∈ c) (hl : nums.length = names.length) (nnd : names.Nodup) (nmn : ∀ x ∈ names, x ∈ menu)
    (hp : cs.Perm (kept.map (·.map (rho nums names)))) (hs : cs.Pairwise fun a b => listLt b a = false) : VH names cs := by
  have nnd' : nums.Nodup := nasc.imp fun h => by omega
  have hm := rho_map hl nnd'
  have inj : ∀ a ∈ nums, ∀ b ∈ nums, rho nums names a = rho nums names b → a = b := inj_of_nodup (by rw [hm]; exact nnd)
  have sub : ∀ c ∈ kept, ∀ x ∈ c, x ∈ nums := fun c hc x hx => (nmem x).mpr ⟨(ci c hc).rg x hx, c, hc, hx⟩
  have lenp := hp.length_eq
  rw [List.length_map] at lenp
  have hpos : 0 < kept.length := List.length_pos_iff.mpr k0
  have nlen : nums.length ≤ m := asc_len m 0 nasc fun x hx => by
    have := ((nmem x).mp hx).1
    omega
  have from_ : ∀ c ∈ cs, ∃ d ∈ kept, c = d.map (rho nums names) := fun c hc => by
    obtain ⟨d, hd, e⟩ := List.mem_map.mp (hp.mem_iff.mp hc)
    exact ⟨d, hd, e.symm⟩
  have csnd : cs.Nodup := hp.nodup_iff.mpr (nodup_map_on (fun a ha b hb e => map_inj_on inj (sub a ha) (sub b hb) e) knd)
  refine ⟨?_, by omega, nnd, fun k hk => menu_nm k (nmn k hk), by omega, by omega, fun c hc => ?_, fun c hc => ?_, fun i a b ha hb => ?_, fun k hk => ?_⟩
  · obtain ⟨c, hc⟩ := List.exists_mem_of_length_pos hpos
    obtain ⟨x, hx⟩ := List.exists_mem_of_length_pos (List.length_pos_iff.mpr (ci c hc).ne)
    have := List.length_pos_of_mem (sub c hc x hx)
    omega
  · obtain ⟨d, hd, rfl⟩ := from_ c hc
    simpa using (ci d hd).ne
  · obtain ⟨d, hd, rfl⟩ := from_ c hc
    unfold ord
    have e1 : (names.filter fun k => decide (k ∈ d.map (rho nums names))) = ((nums.map (rho nums names)).filter fun k => decide (k ∈ d.map (rho nums names))) := by rw [hm]
    rw [e1, List.filter_map]
    have e2 : (nums.filter ((fun k => decide (k ∈ d.map (rho nums names))) ∘ rho nums names)) = d := by
      refine asc_ext (nasc.filter _) (ci d hd).asc fun x => ?_
      rw [List.mem_filter]
      constructor
      · rintro ⟨h1, h2⟩
        have h3 : rho nums names x ∈ d.map (rho nums names) := of_decide_eq_true h2
        obtain ⟨y, hy, e⟩ := List.mem_map.mp h3
        rw [← inj y (sub d hd y hy) x h1 e]; exact hy
      · intro h
        exact ⟨sub d hd x h, decide_eq_true (List.mem_map.mpr ⟨x, h, rfl⟩)⟩
    rw [e2]
  · obtain ⟨hi, rfl⟩ := List.getElem?_eq_some_iff.mp ha
    obtain ⟨hj, rfl⟩ := List.getElem?_eq_some_iff.mp hb
    have h1 := List.pairwise_iff_getElem.mp hs i (i + 1) hi hj (by omega)
    rw [List.nodup_iff_pairwise_ne] at csnd
    have h2 := List.pairwise_iff_getElem.mp csnd i (i + 1) hi hj (by omega)
    exact list_tri h1 h2
  · rw [← hm] at hk
    obtain ⟨x, hx, rfl⟩ := List.mem_map.mp hk
    obtain ⟨_, c, hc, hxc⟩ := (nmem x).mp hx
    exact ⟨c.map (rho nums names), hp.mem_iff.mpr (List.mem_map.mpr ⟨c, hc, rfl⟩), List.mem_map.mpr ⟨x, hxc, rfl⟩⟩
theorem strT_lay : ∀ cs : List (List Str), (∀ c ∈ cs, ∀ x ∈ c, PyData.strOk x = true) → PyData.canLayAll0 (cs.map fun c => PyData.tuple (c.map PyData.str)) = true
  | [], _ => rfl
  | c :: cs, h => by
    rw [List.map_cons, PyData.canLayAll0, strT_lay cs fun d hd => h d (by simp [hd]), Bool.and_true]
    simp only [PyData.canLay0]
    exact strs_lay (h c (by simp))
end CB
set_option Elab.async false
set_option linter.all false
set_option maxRecDepth 100000
set_option maxHeartbeats 4000000
namespace CB
open PySem PySem.Spec
open PyProof.Rows L2
open PySem.W (Datum Tup DatumOrd listLt)
/-! ### the house that is named: the walk -/
structure Kept (m n : Nat) (ks : List (List Int)) : Prop where
  ne : ks ≠ []
  le : ks.length ≤ n
  nd : ks.Nodup
  ci : ∀ c ∈ ks, Ci m c
structure Nums (m : Nat) (ks : List (List Int)) (ns : List Int) : Prop where
  asc : ns.Pairwise (· < ·)
  mem : ∀ x, x ∈ ns ↔ (0 ≤ x ∧ x < m) ∧ ∃ c ∈ ks, x ∈ c
theorem zipK_nd {ns : List Int} {ys : List V} (h : ns.Nodup) : (([] ++ zipK ns ys : List (Key × V)).map (·.1)).Nodup := by
  unfold zipK
  rw [List.nil_append, List.map_map]
  induction ns generalizing ys with
  | nil => exact List.nodup_nil
  | cons n ns ih =>
    rw [List.nodup_cons] at h
    cases ys with
    | nil => exact List.nodup_nil
    | cons y ys =>
      rw [List.zip_cons_cons, List.map_cons, List.nodup_cons]
      refine ⟨fun hm => ?_, ih h.2⟩
      obtain ⟨p, hp, e⟩ := List.mem_map.mp hm
      have e' : p.1 = n := Sum.inl.inj e
      exact h.1 (by rw [← e']; exact (List.of_mem_zip hp).1)
section
variable {P : Program} {w : World} {K : PySem.W.Frag} {mg : Str → Option Value} {base : Heap} {C p0 p1 p2 p3 : Addr}
def spNamed (K : PySem.W.Frag) : Sp := fun vs H Q _ => ∃ (b c F : Addr) (m n : Nat) (fs : List (List Int)), vs = [.ref b, .int (m : Int), .ref F, .int (n : Int)] ∧ Bg H b c ∧ 1 ≤ m ∧ m ≤ 6 ∧ 1 ≤ n ∧ n ≤ 8 ∧ Ls K [b] H F (fs.map Tup.mk) ∧ F ≠ b ∧ FoundOk m fs ∧ fs.length ≤ 100 ∧
  ∀ v ks cs H', Hd K (off H' [b]) v (hs ks cs) → VH ks cs → Kp [b] H H' → Bg H' b c → Q v H'
abbrev s_law_named : Stmt := topS 41
abbrev p_law_named : List Str := ["_law_bag_here", "_law_many", "_law_found", "_law_calls"]
theorem sc_law_named : FnScope ["_law_bag_here", "_law_many", "_law_found", "_law_calls", "_law_kept", "_law_call", "_law_numbers", "_law_menu", "_law_names", "_law_to", "_law_kind"] ["_law_bag_here", "_law_many", "_law_found", "_law_calls"] (defScope s_law_named) := ⟨rfl, rfl, rfl, by decide +kernel, rfl, by decide +kernel, by decide +kernel⟩
theorem c_named (D : Def K mg "_law_named" s_law_named p_law_named) (B : Blt mg) (C_law_take : Cal P w K mg base "_law_take" p_law_take 2 spTake) (C_law_mixed : Cal P w K mg base "_law_mixed" p_law_mixed 2 (spMixed K)) :
    Cal P w K mg base "_law_named" p_law_named 3 (spNamed K) := by
  refine D.cal sc_law_named (fun vs H Q E h => ?_) (fun f cdv A outer s H vs Q E hr h => ?_)
  · obtain ⟨b, c, F, m, n, fs, rfl, _⟩ := h; rfl
  · obtain ⟨b, c, F, m, n, fs, rfl, hb, m1, m6, n1, n8, ls, Fb, fok, fl, q⟩ := h
    refine ⟨_, (pss_cons (ps_set (i := 4) sc_law_named.nd rfl (.inr rfl) (pe_lst pa_nil))
  (pss_cons (ps_for PassesOwn.never rfl (k_piL K (pv 2)) (pg_name (i := 5) sc_law_named.nd rfl (by first | exact .inl rfl | exact .inr rfl))
  (pss_one (ps_if (PW.pt (pw_and (pt_cmpR (k_notInX K (Tup Int) hr.units) (pv 5) (pv 4) (by with_unfolding_all rfl)) (pw_and1 (pt_cmpR op_lt (pe_callB (k_len K) (by rfl) B.len (by decide +kernel) (pa_cons (pv 4) pa_nil)) (pv 3) (nomark _)))))
  (pss_one (ps_expr (k_bm K PySem.F.plainAttrs_list PySem.F.slot_list_append PySem.F.type_list_append mt_append (pv 4) (pa_cons (pv 5) pa_nil))))
  pss_nil)))
  (pss_cons (ps_setLc (i := 6) rfl sc_law_named.nd rfl rfl rfl (pi_range1 (by rfl) B.range (pa_cons (pv 1) pa_nil)) (blkOk_by (own := [("_law_kind", 10)]) (by kernel_rfl)) (fun _ _ _ _ _ => (pg_name (i := 10) sc_law_named.nd rfl (by first | exact .inl rfl | exact .inr rfl))) (fun _ _ _ _ _ => (pts_one (pt_cmpR (k_neX K (List (Tup Int)) hr.units) (pe_lc rfl sc_law_named.nd (k_piL K (pv 4)) (blkOk_by (own := [("_law_call", 5)]) (by kernel_rfl)) (fun _ _ _ _ _ => (pg_name (i := 5) sc_law_named.nd rfl (by first | exact .inl rfl | exact .inr rfl))) (fun _ _ _ _ _ => (pts_one (pt_cmpR (k_inX K Int hr.units) (pv 10) (pv 5) (by with_unfolding_all rfl)))) (fun _ _ _ _ _ => (pv 5))) (pe_lst pa_nil) (nomark _)))) (fun _ _ _ _ _ => (pv 10)))
  (pss_cons (ps_set (i := 7) sc_law_named.nd rfl (.inl rfl) (pe_lst (pa_cons pe_str (pa_cons pe_str (pa_cons pe_str (pa_cons pe_str (pa_cons pe_str (pa_cons pe_str (pa_cons pe_str (pa_cons pe_str (pa_cons pe_str (pa_cons pe_str (pa_cons pe_str (pa_cons pe_str (pa_cons pe_str (pa_cons pe_str (pa_cons pe_str pa_nil)))))))))))))))))
  (pss_cons (ps_set (i := 8) sc_law_named.nd rfl (.inl rfl) (pe_ifExp (pt_cmpR op_gt (pe_cal C_law_take hr (pa_cons (pv 0) (pa_cons pe_int pa_nil))) pe_int (nomark _)) (pe_slice (k_slL K) (pe_cal C_law_mixed hr (pa_cons (pv 0) (pa_cons (pv 7) pa_nil))) po_none (po_some (pe_callB (k_len K) (by rfl) B.len (by decide +kernel) (pa_cons (pv 6) pa_nil)))) (pe_slice (k_slL K) (pv 7) po_none (po_some (pe_callB (k_len K) (by rfl) B.len (by decide +kernel) (pa_cons (pv 6) pa_nil))))))
  (pss_by (fun D σ H1 => ∃ y5 y7 y9 y10, ∃ (nl ml kl : Addr) (nums : List Int) (names : List Str) (kept : List (List Int)), σ = [some (.ref b), some (.int (m : Int)), some (.ref F), some (.int (n : Int)), some (.ref kl), y5, some (.ref nl), y7, some (.ref ml), y9, y10] ∧ H1 nl = some (.lst (nums.map V.int)) ∧ H1 ml = some (.lst (names.map V.str)) ∧ Ls K [b] H1 kl (kept.map Tup.mk) ∧ Kept m n kept ∧ Nums m kept nums ∧ nums.length = names.length ∧ names.Nodup ∧ (∀ x ∈ names, x ∈ menu) ∧ Kp [b] H H1 ∧ Bg H1 b c ∧ (∀ v H2, D.rt v H2 = Q v H2))
  (pss_cons (ps_set (i := 9) sc_law_named.nd rfl (.inr rfl) (pe_callTy (k_dict K) (by rfl) B.dict (by decide +kernel) (pa_cons (pe_listZip K rfl (by rfl) B.list (by rfl) B.zip (pa_cons (pv 6) (pa_cons (pv 8) pa_nil))) pa_nil)))
  (pss_one (ps_ret (pe_tup (pa_cons (pe_callTy (k_tuple K) (by rfl) B.tuple (by decide +kernel) (pa_cons (pv 8) pa_nil)) (pa_cons (pe_callTy (k_tuple K) (by rfl) B.tuple (by decide +kernel) (pa_cons (pe_callB (k_sortX K (Tup Str) hr.units) (by rfl) B.sorted (by decide +kernel) (pa_cons (pe_lc rfl sc_law_named.nd (k_piL K (pv 4)) (blkOk_by (own := [("_law_call", 5)]) (by kernel_rfl)) (fun _ _ _ _ _ => (pg_name (i := 5) sc_law_named.nd rfl (by first | exact .inl rfl | exact .inr rfl))) (fun _ _ _ _ _ => pts_nil) (fun _ _ _ _ _ => (pe_callTy (k_tuple K) (by rfl) B.tuple (by decide +kernel) (pa_cons (pe_lc rfl sc_law_named.nd (k_piT K (pv 5)) (blkOk_by (own := [("_law_kind", 10)]) (by kernel_rfl)) (fun _ _ _ _ _ => (pg_name (i := 10) sc_law_named.nd rfl (by first | exact .inl rfl | exact .inr rfl))) (fun _ _ _ _ _ => pts_nil) (fun _ _ _ _ _ => (pe_dget (hu_of hr) (pv 9) (pv 10) (fun _ _ => rfl)))) pa_nil)))) pa_nil)) pa_nil)) pa_nil)))))) ?cut224)))))), ?_⟩
    case cut224 =>
      rintro Dn σ H1 ⟨y5, y7, y9, y10, nl, ml, kl, nums, names, kept, rfl, en, em, lk, hk, hnu, hle, hnd, hmn, k1, b1, hrt⟩
      refine ⟨.ref nl, rfl, .ref ml, rfl, nl, ml, nums, names.map V.str, rfl, sql_of en, sql_of em, fun H2 p ts s2 np ep hp => ?_⟩
      have hnn : nums.Nodup := hnu.asc.imp fun h => by omega
      refine ⟨p, ts, zipK nums (names.map V.str), rfl, sql_of ep, paired_mono hp (fun _ _ h => sqt_of h), fun dd nd => ?_⟩
      rw [show mergeK [] (zipK nums (names.map V.str)) = zipK nums (names.map V.str) from merge_nd (kvs := []) (zipK_nd hnn)]
      have k2 : Kp [b] H H2 := k1.trans (Kp.of_same s2)
      have b2 : Bg H2 b c := b1.kp (Kp.of_same (S := []) s2) (by simp) (by simp)
      have lk2 : Ls K [b] H2 kl (kept.map Tup.mk) := lk.kp (T := []) (Kp.of_same s2) (by simp) (by simp)
      have em2 := s2 _ _ em
      have mdd := ne_of_none em2 nd
      have k3 := k2.up (o := .dK (zipK nums (names.map V.str))) nd
      have b3 := b2.new (o := .dK (zipK nums (names.map V.str))) nd
      have lk3 : Ls K [b] (upd H2 dd (.dK (zipK nums (names.map V.str)))) kl (kept.map Tup.mk) := lk2.kp (T := []) (Kp.new nd) (by simp) (by simp)
      have em3 : (upd H2 dd (.dK (zipK nums (names.map V.str)))) ml = some (.lst (names.map V.str)) := by rw [upd_ne mdd]; exact em2
      have ed3 : (upd H2 dd (.dK (zipK nums (names.map V.str)))) dd = some (.dK (zipK nums (names.map V.str))) := upd_same
      revert k3 b3 lk3 em3 ed3
      generalize upd H2 dd (.dK (zipK nums (names.map V.str))) = H3
      intro k3 b3 lk3 em3 ed3
      refine ⟨.ref ml, rfl, ml, _, rfl, .inl ⟨sql_of em3, fun p1 np1 => ?_⟩⟩
      have p1b := b3.ne np1
      have dp1 := ne_of_none ed3 np1
      have k4 := k3.up (o := .tup (names.map V.str)) np1
      have b4 := b3.new (o := .tup (names.map V.str)) np1
      have lk4 : Ls K [b] (upd H3 p1 (.tup (names.map V.str))) kl (kept.map Tup.mk) := lk3.kp (T := []) (Kp.new np1) (by simp) (by simp)
      have ed4 : (upd H3 p1 (.tup (names.map V.str))) dd = some (.dK (zipK nums (names.map V.str))) := by rw [upd_ne dp1]; exact ed3
      have ep4 : (upd H3 p1 (.tup (names.map V.str))) p1 = some (.tup (names.map V.str)) := upd_same
      revert k4 b4 lk4 ed4 ep4
      generalize upd H3 p1 (.tup (names.map V.str)) = H4
      intro k4 b4 lk4 ed4 ep4
      obtain ⟨accK, eK, hK⟩ := lk4.all
      have lK := all_len hK
      rw [List.length_map] at lK
      have k8 := hk.le
      have sub : ∀ d ∈ kept, ∀ x ∈ d, x ∈ nums := fun d hd x hx => (hnu.mem x).mpr ⟨(hk.ci d hd).rg x hx, d, hd, hx⟩
      refine ⟨.ref kl, rfl, kl, rfl, ⟨_, sql_of eK⟩, fun CL nC => ?_⟩
      have Cb := b4.ne nC
      refine lc_it (walk_list (xs := accK)) (fun i H5 => Same H4 H5 ∧ Ls K [b] H5 CL ((kept.take i).map fun d => Tup.mk (d.map (rho nums names))))
        ⟨same_new nC, [], upd_same, .nil⟩ (fun i H5 _ u => sql_of (u.1 _ _ eK)) ?_ ?_
      · rintro i z H5' H5 hi ⟨s5, ls5⟩ ⟨rfl, hz⟩
        obtain ⟨bs, e5, hbs⟩ := id ls5
        obtain ⟨d0, hd1, hd2⟩ := all_get hK hz
        rw [List.getElem?_map] at hd1
        obtain ⟨d, hd, rfl⟩ := Option.map_eq_some_iff.mp hd1
        have hdm := List.mem_of_getElem? hd
        obtain ⟨ta, rfl, hta⟩ := hd_intT hd2
        have hta : SqT K (off H4 [b]) ta (d.map V.int) := hta
        have hta5 : SqT K H5 ta (d.map V.int) := Same.sqt s5 (off_sqt hta)
        have dl := (hk.ci d hdm).len
        have bl := all_len hbs
        rw [List.length_map, List.length_take] at bl
        refine ⟨rfl, .ref ta, rfl, ta, rfl, ⟨_, hta5⟩, fun RL nR => ?_⟩
        have CR := ne_of_none e5 nR
        refine lc_it (walk_tup (xs := d.map V.int)) (fun j H6 => Same H5 H6 ∧ H6 RL = some (.lst (((d.take j).map (rho nums names)).map V.str)))
          ⟨same_new nR, upd_same⟩ (fun j H6 _ u => Same.sqt u.1 hta5) ?_ ?_
        · rintro j y H6' H6 hj ⟨s6, e6⟩ ⟨rfl, hy⟩
          rw [List.getElem?_map] at hy
          obtain ⟨x, hx, rfl⟩ := Option.map_eq_some_iff.mp hy
          have hval := rho_val (k := x) hle (sub d hdm x (List.mem_of_getElem? hx))
          have hget : DGet H6 dd (.int x) (some (.str (rho nums names x))) := .inl ⟨_, .inl x, .inl (s6 _ _ (s5 _ _ ed4)), rfl, hval.symm⟩
          rw [List.length_map] at hj
          refine ⟨rfl, .ref dd, rfl, .int x, rfl, dd, _, rfl, hget, _, e6, small1000 (by simp; omega), fun a o ea => ?_, ?_⟩
          · rw [upd_ne (ne_of_none ea nR)]; exact s6 _ _ ea
          · rw [upd_same, List.take_add_one, hx]
            simp
        · rintro H6 ⟨s6, e6⟩
          rw [List.length_map, List.take_length] at e6
          refine ⟨RL, _, rfl, .inl ⟨sql_of e6, fun p5 np5 => ?_⟩⟩
          have s7 : Same H6 (upd H6 p5 (.tup ((d.map (rho nums names)).map V.str))) := same_new np5
          have s57 := s6.trans s7
          have b5 : Bg H5 b c := b4.kp (Kp.of_same (S := []) s5) (by simp) (by simp)
          have b6 : Bg H6 b c := b5.kp (Kp.of_same (S := []) s6) (by simp) (by simp)
          have p5b := b6.ne np5
          have eC7 := s57 _ _ e5
          have Cp5 := ne_of_none (s6 _ _ e5) np5
          have ls7 := ls5.kp (T := []) (Kp.of_same s57) (by simp) (by simp)
          obtain ⟨acc', e', l', ls8⟩ := ls7.push (d := Tup.mk (d.map (rho nums names))) (hd_tup (sqt_of (off_of (by simp [p5b, Cp5.symm]) upd_same)) (all_strs _))
          refine ⟨acc', e', small1000 (by rw [l', List.length_map, List.length_take]; omega), fun a o ea => ?_, ?_⟩
          · rw [upd_ne (ne_of_none ea nC)]; exact s57 _ _ (s5 _ _ ea)
          · rw [List.take_add_one, hd]
            have : (((kept.take i ++ (some d).toList).map fun d => Tup.mk (d.map (rho nums names))) : List (Tup Str)) = ((kept.take i).map fun d => Tup.mk (d.map (rho nums names))) ++ [Tup.mk (d.map (rho nums names))] := by simp
            rw [this]
            exact ls8
      · rintro H5 ⟨s5, ls5⟩
        rw [List.take_of_length_le (by omega)] at ls5
        obtain ⟨bs, e5, hbs⟩ := ls5.all
        have k5 : Kp [b] H H5 := k4.trans (Kp.of_same s5)
        have b5 : Bg H5 b c := b4.kp (Kp.of_same (S := []) s5) (by simp) (by simp)
        have nok : ∀ d ∈ kept.map (·.map (rho nums names)), ∀ x ∈ d, PyData.strOk x = true := by
          intro e he x hx
          obtain ⟨d, hd, rfl⟩ := List.mem_map.mp he
          obtain ⟨y, hy, rfl⟩ := List.mem_map.mp hx
          have hm : rho nums names y ∈ nums.map (rho nums names) := List.mem_map.mpr ⟨y, sub d hd y hy, rfl⟩
          rw [rho_map hle hnn] at hm
          exact nm_ok (menu_nm _ (hmn _ hm))
        have hlay : PyData.canLayAll0 ((kept.map fun d => Tup.mk (d.map (rho nums names))).map Datum.toD) = true := by
          have := strT_lay _ nok
          rw [List.map_map] at this ⊢
          exact this
        have hsrt : PySem.W.Sortable ((kept.map fun d => Tup.mk (d.map (rho nums names))).map Datum.toD) := .inl fun x hx => by
          rw [List.map_map] at hx
          obtain ⟨d, hd, rfl⟩ := List.mem_map.mp hx
          cases d with
          | nil => exact absurd rfl (hk.ci _ hd).ne
          | cons y ys => exact ⟨_, _, rfl⟩
        refine ⟨off H5 [b], CL, bs, _, rfl, off_le, .inl (sql_of e5), hbs, hlay, hsrt, fun ys es q1 hperm hpw hys nq1 => ?_⟩
        obtain ⟨cs, rfl⟩ : ∃ cs : List (List Str), es = cs.map Tup.mk := ⟨es.map Tup.items, by rw [List.map_map]; exact (List.map_id es).symm⟩
        have ep5 := s5 _ _ ep4
        have pq := ne_of_none ep5 nq1
        have q1b := b5.ne nq1
        refine ⟨q1, ys, rfl, .inl ⟨sql_of upd_same, fun p6 np6 => ?_⟩⟩
        have b6 : Bg (upd H5 q1 (.lst ys)) b c := b5.new nq1
        have p6b := b6.ne np6
        have ep6 : (upd H5 q1 (.lst ys)) p1 = some (.tup (names.map V.str)) := by rw [upd_ne pq]; exact ep5
        have pp := ne_of_none ep6 np6
        refine ⟨len_ok (by simp), fun R nR => ?_⟩
        have b7 := b6.new (o := .tup ys) np6
        have Rb := b7.ne nR
        have ep7 : (upd (upd H5 q1 (.lst ys)) p6 (.tup ys)) p1 = some (.tup (names.map V.str)) := by rw [upd_ne pp]; exact ep6
        have pR := ne_of_none ep7 nR
        have p6R := ne_of_none (show (upd (upd H5 q1 (.lst ys)) p6 (.tup ys)) p6 = _ from upd_same) nR
        have sF : Same H5 (upd (upd (upd H5 q1 (.lst ys)) p6 (.tup ys)) R (.tup [.ref p1, .ref p6])) := ((same_new nq1).trans (same_new np6)).trans (same_new nR)
        have hperm' : cs.Perm (kept.map (·.map (rho nums names))) := by
          have h1 := hperm.map Tup.items
          rw [List.map_map, List.map_map] at h1
          rw [show cs.map (Tup.items ∘ Tup.mk) = cs from List.map_id cs] at h1
          exact h1
        have hpw' : cs.Pairwise fun a b => listLt b a = false := by
          rw [List.pairwise_map] at hpw
          exact hpw
        have vh : VH names cs := vh_of m6 hk.ne (by omega) hk.nd hk.ci hnu.asc hnu.mem hle hnd hmn hperm' hpw'
        have fin : Q (.ref R) (upd (upd (upd H5 q1 (.lst ys)) p6 (.tup ys)) R (.tup [.ref p1, .ref p6])) := by
          refine q _ names cs _ ?_ vh (k5.trans (Kp.of_same sF)) (b7.new nR)
          refine hd_pair (x := .ref p1) (y := .ref p6) (sqt_of (off_of (by simpa using Rb) upd_same)) (hd_tup (sqt_of (off_of (by simpa using p1b) (by rw [upd_ne pR]; exact ep7))) (all_strs _)) (hd_tup (sqt_of (off_of (by simpa using p6b) (by rw [upd_ne p6R]; exact upd_same))) ?_)
          exact DpAll.mono (Kp.off' (Kp.of_same sF)) hys
        rw [← hrt] at fin
        exact fin
    obtain ⟨accF, eF, hF⟩ := id ls
    have lF := all_len hF
    rw [List.length_map] at lF
    refine ⟨by decide, fun KL nK => ?_⟩
    have FK := ne_of_none eF nK
    have Kb := hb.ne nK
    have Kc := hb.nec nK
    refine ⟨.ref F, rfl, F, rfl, ⟨_, sql_of (by rw [upd_ne FK]; exact eF)⟩, ?_⟩
    refine for_it (walk_list (xs := accF)) (fun i σ H2 => (∃ y5 y6 y7 y8 y9 y10, σ = [some (.ref b), some (.int (m : Int)), some (.ref F), some (.int (n : Int)), some (.ref KL), y5, y6, y7, y8, y9, y10]) ∧ Kp [b] H H2 ∧ Bg H2 b c ∧ H2 F = some (.lst accF) ∧
        ∃ ks : List (List Int), Ls K [b] H2 KL (ks.map Tup.mk) ∧ ks.length ≤ n ∧ ks.Nodup ∧ (∀ d ∈ ks, Ci m d) ∧ (1 ≤ i → ks ≠ []))
      ⟨⟨_, _, _, _, _, _, rfl⟩, Kp.new nK, hb.new nK, by rw [upd_ne FK]; exact eF, [], ⟨[], upd_same, .nil⟩, Nat.zero_le _, List.nodup_nil, by simp, by omega⟩ ?_ ?_ ?_
    · rintro i σ H2 _ ⟨_, _, _, e, _⟩; exact sql_of e
    · rintro i z σ H2' H2 hi ⟨⟨y5, y6, y7, y8, y9, y10, rfl⟩, k2, b2, eF2, ks, lk, kn, knd, kci, kne⟩ ⟨rfl, hz⟩
      obtain ⟨d, hd1, hd2⟩ := all_get hF hz
      rw [List.getElem?_map] at hd1
      obtain ⟨f, hf, rfl⟩ := Option.map_eq_some_iff.mp hd1
      have hci := fok.ci f (List.mem_of_getElem? hf)
      obtain ⟨accK, eK, hK⟩ := id lk
      have lK := all_len hK
      rw [List.length_map] at lK
      have hH : Hd K (off H2 (KL :: [b])) z (Tup.mk f) := Dp.mono (fun a o e => by
        obtain ⟨n1, e1⟩ := off_some e
        have n0 : a ≠ KL := ne_of_none e1 nK
        simp only [List.mem_cons, List.not_mem_nil, or_false, not_or] at n1
        exact off_of (by simp [n0, n1.2]) (k2 _ _ (by simp [n1.2]) e1)) hd2
      have hH0 : Hd K H2 z (Tup.mk f) := Dp.mono (fun a o e => (off_some e).2) hH
      have hL0 : Hd K H2 (.ref KL) (ks.map Tup.mk) := hd_lst (sql_of eK) (DpAll.mono (fun a o e => (off_some e).2) hK)
      refine ⟨z, rfl, .ref KL, rfl, Tup.mk f, ks.map Tup.mk, hH0, .inl hL0, _, rfl, ?_⟩
      have hiff : Tup.mk f ∈ ks.map Tup.mk ↔ f ∈ ks := by
        rw [List.mem_map]
        constructor
        · rintro ⟨g, hg, e⟩
          cases e; exact hg
        · intro h; exact ⟨f, h, rfl⟩
      by_cases hin : f ∈ ks
      · refine ifF (by simp [hiff, hin]) ?_
        refine ifF rfl ?_
        exact ⟨⟨_, _, _, _, _, _, rfl⟩, k2, b2, eF2, ks, lk, kn, knd, kci, fun _ z => by rw [z] at hin; cases hin⟩
      · refine ifT (by simp [hiff, hin]) ?_
        refine ⟨.ref KL, rfl, KL, _, rfl, .inl (sql_of eK), .int (n : Int), rfl, _, _, rfl, rfl, _, rfl, ?_⟩
        by_cases hlt : accK.length < n
        · refine ifT (by simp; omega) ?_
          obtain ⟨acc', e', l', ls2⟩ := lk.push hH
          refine ⟨.ref KL, rfl, .inl ⟨rfl, _, sql_of eK⟩, z, rfl, KL, acc', _, rfl, rfl, e', small1000 (by rw [List.length_map] at l'; omega), ⟨_, _, _, _, _, _, rfl⟩, k2.wf nK, b2.wr Kb Kc, ?_, ks ++ [f], by rw [List.map_append (f := Tup.mk)]; exact ls2, by rw [List.length_append, List.length_singleton]; omega, ?_, fun d hd => ?_, by simp⟩
          · rw [upd_ne FK]; exact eF2
          · rw [List.nodup_append]
            refine ⟨knd, by simp, fun x hx y hy e => ?_⟩
            rw [List.mem_singleton] at hy
            exact hin (by rw [← hy, ← e]; exact hx)
          · rcases List.mem_append.mp hd with h | h
            · exact kci d h
            · rw [List.mem_singleton] at h
              rw [h]; exact hci
        · refine ifF (by simp; omega) ?_
          exact ⟨⟨_, _, _, _, _, _, rfl⟩, k2, b2, eF2, ks, lk, kn, knd, kci, fun _ z => by rw [z] at lK; rw [List.length_nil] at lK; omega⟩
    · rintro σ H2 ⟨⟨y5, y6, y7, y8, y9, y10, rfl⟩, k2, b2, eF2, ks, lk, kn, knd, kci, kne⟩
      have hlF : 1 ≤ accF.length := by
        have := List.length_pos_iff.mpr fok.ne
        omega
      have kp : Kept m n ks := ⟨kne hlF, kn, knd, kci⟩
      obtain ⟨accK, eK, hK⟩ := id lk
      have lK := all_len hK
      rw [List.length_map] at lK
      have hK0 : HdAll K H2 accK (ks.map Tup.mk) := DpAll.mono (fun a o e => (off_some e).2) hK
      refine ⟨.int (m : Int), rfl, (m : Int), rfl, by omega, by omega, fun NL nN => ?_⟩
      rw [Int.toNat_natCast]
      have KN := ne_of_none eK nN
      refine lc_it (walk_range (lo := 0) (n := m)) (fun j H3 => Same H2 H3 ∧ ∃ ns : List Int, H3 NL = some (.lst (ns.map V.int)) ∧ ns.length ≤ j ∧ ns.Pairwise (· < ·) ∧ ∀ x, x ∈ ns ↔ (0 ≤ x ∧ x < j) ∧ ∃ c ∈ ks, x ∈ c) ⟨same_new nN, [], upd_same, Nat.zero_le _, List.Pairwise.nil, fun x => by simp; omega⟩ (fun _ _ _ _ => trivial) ?_ ?_
      · rintro j z H3' H3 hj ⟨s3, ns, e3, nl, nasc, nmem⟩ ⟨rfl, hz0⟩
        obtain ⟨jx, hjx, rfl⟩ : ∃ jx : Int, jx = j ∧ z = .int jx := ⟨0 + (j : Int), by omega, hz0⟩
        have eK3 := s3 _ _ eK
        refine ⟨rfl, .ref KL, rfl, KL, rfl, ⟨_, sql_of eK3⟩, fun AL nA => ?_⟩
        refine lc_it (walk_list (xs := accK)) (fun i H4 => Same H3 H4 ∧ ∃ bs, H4 AL = some (.lst bs) ∧ HdAll K H2 bs (((ks.take i).filter fun d => decide (jx ∈ d)).map Tup.mk))
          ⟨same_new nA, [], upd_same, .nil⟩ (fun i H4 _ u => sql_of (u.1 _ _ eK3)) ?_ ?_
        · rintro i z H4' H4 hi ⟨s4, bs, e4, hbs⟩ ⟨rfl, hz⟩
          obtain ⟨d0, hd1, hd2⟩ := all_get hK0 hz
          rw [List.getElem?_map] at hd1
          obtain ⟨g, hg, rfl⟩ := Option.map_eq_some_iff.mp hd1
          have hd4 : Hd K H4 z (Tup.mk g) := Dp.mono (s3.trans s4) hd2
          have hlen : bs.length < sizeLine := small1000 (by
            have h1 := all_len hbs
            have h2 := List.length_filter_le (fun d : List Int => decide (jx ∈ d)) (ks.take i)
            rw [List.length_map] at h1
            rw [List.length_take] at h2
            omega)
          refine ⟨rfl, .int jx, rfl, z, rfl, jx, g, hd_int _, .inr hd4, _, rfl, ?_⟩
          by_cases hm : jx ∈ g
          · refine ifT (by simp [hm]) ⟨z, rfl, bs, e4, hlen, fun c o ec => ?_, _, upd_same, ?_⟩
            · rw [upd_ne (ne_of_none ec nA)]; exact s4 _ _ ec
            · rw [List.take_add_one, hg]
              have : ((ks.take i ++ (some g).toList).filter fun d => decide (jx ∈ d)) = ((ks.take i).filter fun d => decide (jx ∈ d)) ++ [g] := by rw [List.filter_append]; simp [hm]
              rw [this, List.map_append]
              exact all_app hbs (all_one hd2)
          · refine ifF (by simp [hm]) ⟨s4, bs, e4, ?_⟩
            rw [List.take_add_one, hg]
            have : ((ks.take i ++ (some g).toList).filter fun d => decide (jx ∈ d)) = ((ks.take i).filter fun d => decide (jx ∈ d)) := by rw [List.filter_append]; simp [hm]
            rw [this]
            exact hbs
        · rintro H4 ⟨s4, bs, e4, hbs⟩
          rw [List.take_of_length_le (by omega)] at hbs
          refine ⟨by decide, fun EL nE => ?_⟩
          have sE : Same H4 (upd H4 EL (.lst [])) := same_new nE
          have hA : Hd K (upd H4 EL (.lst [])) (.ref AL) ((ks.filter fun d => decide (jx ∈ d)).map Tup.mk) := hd_lst (sql_of (sE _ _ e4)) (DpAll.mono ((s3.trans s4).trans sE) hbs)
          have e6 := sE _ _ (s4 _ _ e3)
          refine ⟨_, [], hA, hd_lst (sql_of upd_same) .nil, _, rfl, ?_⟩
          by_cases hm : ∃ c ∈ ks, jx ∈ c
          · have hne : (ks.filter fun d => decide (jx ∈ d)).map Tup.mk ≠ [] := by
              obtain ⟨c0, h1, h2⟩ := hm
              intro e
              have := List.map_eq_nil_iff.mp e
              have hmem : c0 ∈ (ks.filter fun d => decide (jx ∈ d)) := List.mem_filter.mpr ⟨h1, decide_eq_true h2⟩
              rw [this] at hmem; cases hmem
            refine ifT (by simpa using hne) ⟨_, rfl, _, e6, small1000 (by rw [List.length_map]; omega), fun a o ea => ?_, ns ++ [jx], by rw [upd_same, List.map_append]; rfl, by rw [List.length_append, List.length_singleton]; omega, ?_, fun x => ?_⟩
            · rw [upd_ne (ne_of_none ea nN)]; exact ((s3.trans s4).trans sE) _ _ ea
            · rw [List.pairwise_append]
              refine ⟨nasc, List.pairwise_singleton _ _, fun x hx y hy => ?_⟩
              rw [List.mem_singleton] at hy
              have := ((nmem x).mp hx).1
              omega
            · rw [List.mem_append, List.mem_singleton, nmem x]
              constructor
              · rintro (⟨h1, h2⟩ | rfl)
                · exact ⟨by omega, h2⟩
                · exact ⟨by omega, hm⟩
              · rintro ⟨h1, h2⟩
                by_cases hx : x = jx
                · exact .inr hx
                · exact .inl ⟨by omega, h2⟩
          · have hnil : (ks.filter fun d => decide (jx ∈ d)).map Tup.mk = [] := by
              rw [List.map_eq_nil_iff, List.filter_eq_nil_iff]
              intro d hd h
              exact hm ⟨d, hd, of_decide_eq_true h⟩
            refine ifF (by simpa using hnil) ⟨(s3.trans s4).trans sE, ns, e6, by omega, nasc, fun x => ?_⟩
            rw [nmem x]
            constructor
            · rintro ⟨h1, h2⟩
              exact ⟨by omega, h2⟩
            · rintro ⟨h1, h2⟩
              by_cases hx : x = jx
              · rw [hx] at h2; exact absurd h2 hm
              · exact ⟨by omega, h2⟩
      · rintro H3 ⟨s3, ns, e3, nl, nasc, nmem⟩
        have hN : Nums m ks ns := ⟨nasc, nmem⟩
        have k3 : Kp [b] H H3 := k2.trans (Kp.of_same s3)
        have b3 : Bg H3 b c := b2.kp (Kp.of_same (S := []) s3) (by simp) (by simp)
        have lk3 : Ls K [b] H3 KL (ks.map Tup.mk) := lk.kp (T := []) (Kp.of_same s3) (by simp) (by simp)
        have Nb : NL ≠ b := b2.ne nN
        refine ⟨len_ok (by simp), fun ML nM => ?_⟩
        have NM := ne_of_none e3 nM
        have KM := ne_of_none (s3 _ _ eK) nM
        have Mb := b3.ne nM
        have k4 := k3.up (o := .lst (menu.map V.str)) nM
        have b4 := b3.new (o := .lst (menu.map V.str)) nM
        have lk4 : Ls K [b] (upd H3 ML (.lst (menu.map V.str))) KL (ks.map Tup.mk) := lk3.kp (T := []) (Kp.new nM) (by simp) (by simp)
        have e4 : (upd H3 ML (.lst (menu.map V.str))) NL = some (.lst (ns.map V.int)) := by rw [upd_ne NM]; exact e3
        have eM4 : (upd H3 ML (.lst (menu.map V.str))) ML = some (.lst (menu.map V.str)) := upd_same
        have hme : menu.map V.str = [V.str "a", V.str "b", V.str "c", V.str "d", V.str "e", V.str "ab", V.str "ba", V.str "zz", V.str "call", V.str "put", V.str "drop", V.str "kinds", V.str "abcdef", V.str "x", V.str "zzzzzz"] := rfl
        rw [← hme]
        revert k4 b4 lk4 e4 eM4
        generalize upd H3 ML (.lst (menu.map V.str)) = H4
        intro k4 b4 lk4 e4 eM4
        refine ⟨.ref b, rfl, b, c, 3, rfl, b4, by decide, by decide, fun r H5 r0 r1 k5 b5 => ?_⟩
        have eN5 := k5 _ _ (by simpa using Nb) e4
        have eM5 := k5 _ _ (by simpa using Mb) eM4
        have lk5 : Ls K [b] H5 KL (ks.map Tup.mk) := lk4.kp k5 (by simpa using Kb) (by simp)
        have nlen : ns.length ≤ 6 := by omega
        refine ⟨_, _, rfl, rfl, _, rfl, ite2 (fun _ => ?_) (fun _ => ?_)⟩
        · refine ⟨.ref b, rfl, .ref ML, rfl, b, c, ML, menu.map V.str, rfl, b5, sql_of (off_of (by simpa using Mb) eM5), by decide, fun YL H6 ys nY eY pY k6 b6 => ?_⟩
          obtain ⟨names, p1, rfl⟩ := perm_map_ex (f := V.str) pY rfl
          have eN6 := k6 _ _ (by simpa using Nb) eN5
          have lk6 : Ls K [b] H6 KL (ks.map Tup.mk) := lk5.kp k6 (by simpa using Kb) (by simp)
          have kk6 := (k4.trans k5).trans k6
          have nmn : ∀ x ∈ names.take ns.length, x ∈ menu := fun x hx => p1.mem_iff.mp (List.mem_of_mem_take hx)
          have nnd : (names.take ns.length).Nodup := (p1.nodup_iff.mpr menu_nd).sublist (List.take_sublist _ _)
          have nle : ns.length = (names.take ns.length).length := by
            rw [List.length_take, p1.length_eq]
            have : menu.length = 15 := rfl
            omega
          refine ⟨.ref NL, rfl, NL, _, rfl, .inl (sql_of eN6), _, rfl, YL, _, rfl, sql_of eY, fun S1 nS1 => ?_⟩
          have NS := ne_of_none eN6 nS1
          refine ⟨y5, _, _, _, NL, S1, KL, ns, names.take ns.length, ks, rfl, by rw [upd_ne NS]; exact eN6, ?_, lk6.kp (T := []) (Kp.new nS1) (by simp) (by simp), kp, hN, nle, nnd, nmn, kk6.up nS1, b6.new nS1, fun _ _ => rfl⟩
          rw [upd_same, List.length_map, cutTo, List.map_take]
        · have kk5 := k4.trans k5
          have nmn : ∀ x ∈ menu.take ns.length, x ∈ menu := fun x hx => List.mem_of_mem_take hx
          have nnd : (menu.take ns.length).Nodup := menu_nd.sublist (List.take_sublist _ _)
          have nle : ns.length = (menu.take ns.length).length := by
            rw [List.length_take]
            have : menu.length = 15 := rfl
            omega
          refine ⟨.ref ML, rfl, .ref NL, rfl, NL, _, rfl, .inl (sql_of eN5), _, rfl, ML, _, rfl, sql_of eM5, fun S1 nS1 => ?_⟩
          have NS := ne_of_none eN5 nS1
          refine ⟨y5, _, _, _, NL, S1, KL, ns, menu.take ns.length, ks, rfl, by rw [upd_ne NS]; exact eN5, ?_, lk5.kp (T := []) (Kp.new nS1) (by simp) (by simp), kp, hN, nle, nnd, nmn, kk5.up nS1, b5.new nS1, fun _ _ => rfl⟩
          rw [upd_same, List.length_map, cutTo, List.map_take]
end
end CB
set_option Elab.async false
set_option linter.all false
set_option maxRecDepth 100000
set_option maxHeartbeats 4000000
namespace CB
open PySem PySem.Spec
open PyProof.Rows L2
open PySem.W (Datum Tup DatumOrd listLt)
/-! ### the house -/
theorem andV_any {t1 t2 : TE} {σ : L2.St} {H : Hp} {Q : VK} (h1 : ∀ Q' : VK, (∀ k, Q' (.bl k) H) → t1 σ H Q') (h2 : ∀ Q' : VK, (∀ k, Q' (.bl k) H) → t2 σ H Q') (h : ∀ k, Q (.bl k) H) : tAndV t1 t2 σ H Q :=
  h1 _ fun k => ⟨k, rfl, ite2 (fun _ => h2 _ h) (fun _ => h _)⟩
section
variable {P : Program} {w : World} {K : PySem.W.Frag} {mg : Str → Option Value} {base : Heap} {C p0 p1 p2 p3 : Addr}
def spLHouse (K : PySem.W.Frag) : Sp := fun vs H Q _ => ∃ (b c : Addr) (k n : Nat), vs = [.ref b, .int (k : Int), .int (n : Int)] ∧ Bg H b c ∧ 1 ≤ k ∧ k ≤ 6 ∧ 1 ≤ n ∧ n ≤ 8 ∧
  ∀ v ks cs H', Hd K (off H' [b]) v (hs ks cs) → VH ks cs → Kp [b] H H' → Bg H' b c → Q v H'
abbrev s_law_house : Stmt := topS 37
abbrev p_law_house : List Str := ["_law_bag_here", "_law_kinds", "_law_calls"]
theorem sc_law_house : FnScope ["_law_bag_here", "_law_kinds", "_law_calls", "_law_many", "_law_way", "_law_found", "_law_turn", "_law_two"] ["_law_bag_here", "_law_kinds", "_law_calls"] (defScope s_law_house) := ⟨rfl, rfl, rfl, by decide +kernel, rfl, by decide +kernel, by decide +kernel⟩
theorem c_house (D : Def K mg "_law_house" s_law_house p_law_house) (B : Blt mg) (C_law_take : Cal P w K mg base "_law_take" p_law_take 3 spTake) (C_law_one : Cal P w K mg base "_law_one" p_law_one 3 (spOne K))
    (C_law_mixed : Cal P w K mg base "_law_mixed" p_law_mixed 3 (spMixed K)) (C_law_paths : Cal P w K mg base "_law_paths" p_law_paths 3 (spPaths K)) (C_law_forks : Cal P w K mg base "_law_forks" p_law_forks 3 (spForks K))
    (C_law_bent_call : Cal P w K mg base "_law_bent_call" p_law_bent_call 3 (spBent K)) (C_law_any_calls : Cal P w K mg base "_law_any_calls" p_law_any_calls 3 (spAny K)) (C_law_named : Cal P w K mg base "_law_named" p_law_named 3 (spNamed K)) :
    Cal P w K mg base "_law_house" p_law_house 4 (spLHouse K) := by
  refine D.cal sc_law_house (fun vs H Q E h => ?_) (fun f cdv A outer s H vs Q E hr h => ?_)
  · obtain ⟨b, c, k, n, rfl, _⟩ := h; rfl
  · obtain ⟨b, c, k, n, rfl, hb, k1, k6, n1, n8, q⟩ := h
    refine ⟨_, (pss_cons (ps_par (i := 3) (j := 4) rfl sc_law_house.nd rfl rfl (by decide) rfl rfl (pa_cons (pe_callB (call_min2 rfl) (by rfl) B.min (by decide +kernel) (pa_cons (pv 1) (pa_cons (pe_cal C_law_one hr (pa_cons (pv 0) (pa_cons (pe_lst (pa_cons pe_int (pa_cons pe_int (pa_cons pe_int (pa_cons pe_int (pa_cons pe_int (pa_cons (pv 1) (pa_cons pe_int (pa_cons pe_int pa_nil))))))))) pa_nil))) pa_nil))) (pa_cons (pe_cal C_law_take hr (pa_cons (pv 0) (pa_cons pe_int pa_nil))) pa_nil)) rfl)
  (pss_cons (ps_if (pt_cmpR op_lt (pv 4) pe_int (nomark _))
  (pss_cons (ps_set (i := 5) sc_law_house.nd rfl (.inl rfl) (pe_cal C_law_paths hr (pa_cons (pv 0) (pa_cons (pv 3) (pa_cons (pv 2) pa_nil)))))
  (pss_one (ps_for PassesOwn.never rfl (pi_range1 (by rfl) B.range (pa_cons (pe_op op_mul pe_int (pe_callTy call_int1 (by rfl) B.int (by decide +kernel) (pa_cons (pe_and (pe_cmpR op_gt (pv 4) pe_int (nomark _)) (pe_one (pe_cmpR op_gt (pv 3) pe_int (nomark _)))) pa_nil))) pa_nil)) (pg_name (i := 6) sc_law_house.nd rfl (by first | exact .inl rfl | exact .inr rfl))
  (pss_one (ps_if (pt_cmpR (k_eqX K (List Fork) hr.units) (pe_cal C_law_forks hr (pa_cons (pe_tup (pa_cons (pe_tup pa_nil) (pa_cons (pv 5) pa_nil))) pa_nil)) (pe_lst pa_nil) (nomark _))
  (pss_one (ps_set (i := 5) sc_law_house.nd rfl (.inl rfl) (pe_cal C_law_bent_call hr (pa_cons (pv 0) (pa_cons (pv 3) (pa_cons (pv 5) pa_nil))))))
  pss_nil)))))
  (pss_one (ps_if (PW.pt (pw_and (pt_cmpR op_eq (pv 4) pe_int (nomark _)) (pw_and1 (pt_cmpR op_gt (pv 3) pe_int (nomark _)))))
  (pss_cons (ps_set (i := 7) sc_law_house.nd rfl (.inl rfl) (pe_callB (k_sortX K Int hr.units) (by rfl) B.sorted (by decide +kernel) (pa_cons (pe_slice (k_slL K) (pe_cal C_law_mixed hr (pa_cons (pv 0) (pa_cons (pe_listRg rfl (by rfl) B.list (prg_1 (by rfl) B.range (pv 3))) pa_nil))) po_none (po_some pe_int)) pa_nil)))
  (pss_one (ps_set (i := 5) sc_law_house.nd rfl (.inl rfl) (pe_op op_cat (pe_lst (pa_cons (pe_callTy (k_tuple K) (by rfl) B.tuple (by decide +kernel) (pa_cons (pv 7) pa_nil)) (pa_cons (pe_tup (pa_cons (pe_ix (k_ixL K) (pv 7) pe_int (fun _ _ => rfl)) pa_nil)) (pa_cons (pe_tup (pa_cons (pe_ix (k_ixL K) (pv 7) pe_int (fun _ _ => rfl)) pa_nil)) pa_nil)))) (pe_cal C_law_any_calls hr (pa_cons (pv 0) (pa_cons (pv 3) (pa_cons pe_int pa_nil))))))))
  (pss_one (ps_set (i := 5) sc_law_house.nd rfl (.inl rfl) (pe_cal C_law_any_calls hr (pa_cons (pv 0) (pa_cons (pv 3) (pa_cons (pv 2) pa_nil)))))))))
  (pss_by (fun D σ H1 => ∃ y1 y4 y6 y7, ∃ (F : Addr) (m : Nat) (fs : List (List Int)), σ = [some (.ref b), y1, some (.int (n : Int)), some (.int (m : Int)), y4, some (.ref F), y6, y7] ∧ 1 ≤ m ∧ m ≤ 6 ∧ Ls K [b] H1 F (fs.map Tup.mk) ∧ F ≠ b ∧ FoundOk m fs ∧ fs.length ≤ 100 ∧ Kp [b] H H1 ∧ Bg H1 b c ∧ (∀ v H2, D.rt v H2 = Q v H2))
  (pss_one (ps_ret (pe_cal C_law_named hr (pa_cons (pv 0) (pa_cons (pv 3) (pa_cons (pv 5) (pa_cons (pv 2) pa_nil))))))) ?cut194))), ?_⟩
    case cut194 =>
      rintro Dn σ H1 ⟨y1, y4, y6, y7, F, m, fs, rfl, m1, m6, ls, Fb, fok, fl, kk, b1, hrt⟩
      refine ⟨.ref b, rfl, .int (m : Int), rfl, .ref F, rfl, .int (n : Int), rfl, b, c, F, m, n, fs, rfl, b1, m1, m6, n1, n8, ls, Fb, fok, fl, fun v ks cs H2 hv vh k2 b2 => ?_⟩
      have fin := q v ks cs H2 hv vh (kk.trans k2) b2
      rw [← hrt] at fin
      exact fin
    refine ⟨.int (k : Int), rfl, .ref b, rfl, .int (k : Int), rfl, len_ok (by simp), fun L1 nL1 => ?_⟩
    have L1b := hb.ne nL1
    refine ⟨b, c, L1, _, rfl, hb.new nL1, .inl (sql_of (off_of (by simpa using L1b) upd_same)), by simp, by simp, fun i v H2 ev k2' b2 => ?_⟩
    have k2 : Kp [b] H H2 := (Kp.new nL1).trans k2'
    obtain ⟨x, rfl, x1, x6⟩ : ∃ x : Int, v = .int x ∧ 1 ≤ x ∧ x ≤ 6 := by
      have hall : ∀ v ∈ [V.int 2, V.int 3, V.int 1, V.int 4, V.int 3, V.int (k : Int), V.int 5, V.int 2], ∃ x : Int, v = .int x ∧ 1 ≤ x ∧ x ≤ 6 := by
        simp only [List.forall_mem_cons]
        refine ⟨⟨_, rfl, by omega, by omega⟩, ⟨_, rfl, by omega, by omega⟩, ⟨_, rfl, by omega, by omega⟩, ⟨_, rfl, by omega, by omega⟩, ⟨_, rfl, by omega, by omega⟩, ⟨_, rfl, by omega, by omega⟩, ⟨_, rfl, by omega, by omega⟩, ⟨_, rfl, by omega, by omega⟩, fun _ h => nomatch h⟩
      exact hall v (List.mem_of_getElem? ev)
    refine ⟨(k : Int), x, rfl, ?_⟩
    obtain ⟨m, hm, m1, m6⟩ : ∃ m : Nat, (if x < (k : Int) then x else (k : Int)) = (m : Int) ∧ 1 ≤ m ∧ m ≤ 6 := by
      by_cases h : x < (k : Int)
      · exact ⟨x.toNat, by rw [if_pos h]; omega, by omega, by omega⟩
      · exact ⟨k, by rw [if_neg h], k1, k6⟩
    rw [hm]
    refine ⟨.ref b, rfl, b, c, 10, rfl, b2, by decide, by decide, fun r H3 r0 r1 k3' b3 => ?_⟩
    have k3 : Kp [b] H H3 := k2.trans k3'
    refine ⟨_, _, rfl, .int r, rfl, _, _, rfl, rfl, _, rfl, ite2 (fun _ => ?_) (fun _ => ?_)⟩
    · refine ⟨.ref b, rfl, .int (m : Int), rfl, .int (n : Int), rfl, b, c, m, n, rfl, b3, m1, m6, n1, n8, fun F fs H4 nF ls fok fl k4' b4 => ?_⟩
      have k4 := k3.trans k4'
      have Fb := b3.ne nF
      refine ⟨.int r, rfl, _, _, rfl, rfl, _, rfl, ite2 (fun _ => ?_) (fun _ => ?_)⟩
      rotate_left
      · refine .inr ⟨_, rfl, _, _, rfl, rfl, .inl (by decide), _, rfl, by decide, by decide, ?_⟩
        refine for_it (walk_range (lo := 0) (n := 0)) (fun i σ H5 => (∃ y1 y4 y6 y7, σ = [some (.ref b), y1, some (.int (n : Int)), some (.int (m : Int)), y4, some (.ref F), y6, y7]) ∧ H5 = H4)
          ⟨⟨_, _, _, _, rfl⟩, rfl⟩ (fun _ _ _ _ _ => trivial) (fun i _ _ _ _ h => absurd h (Nat.not_lt_zero _)) ?_
        rintro σ H5 ⟨⟨y1, y4, y6, y7, rfl⟩, rfl⟩
        exact ⟨_, _, _, _, F, m, fs, rfl, m1, m6, ls, Fb, fok, by omega, k4, b4, fun _ _ => rfl⟩
      refine ⟨.int (m : Int), rfl, _, _, rfl, rfl, ?_⟩
      refine .inr ⟨_, rfl, _, _, rfl, rfl, .inl (by decide), _, rfl, by split <;> decide, by split <;> decide, ?_⟩
      have hN : (4 * (if decide ((1 : Int) < (m : Int)) = true then (1 : Int) else 0)).toNat ≤ 4 := by split <;> decide
      revert hN
      generalize (4 * (if decide ((1 : Int) < (m : Int)) = true then (1 : Int) else 0)).toNat = N
      intro hN
      refine for_it (walk_range (lo := 0) (n := N)) (fun i σ H5 => ∃ y1 y4 y6 y7, ∃ (F : Addr) (fs : List (List Int)), σ = [some (.ref b), y1, some (.int (n : Int)), some (.int (m : Int)), y4, some (.ref F), y6, y7] ∧ Ls K [b] H5 F (fs.map Tup.mk) ∧ F ≠ b ∧ FoundOk m fs ∧ fs.length ≤ 8 + i ∧ Kp [b] H H5 ∧ Bg H5 b c)
        ⟨_, _, _, _, F, fs, rfl, ls, Fb, fok, by omega, k4, b4⟩ (fun _ _ _ _ _ => trivial) ?_ ?_
      · rintro i z σ H5' H5 hi ⟨y1, y4, y6, y7, F, fs, rfl, ls, Fb, fok, fl, k5, b5⟩ ⟨rfl, rfl⟩
        refine ⟨len_ok (by simp), fun T0 nT0 => ⟨.ref F, rfl, len_ok (by simp), fun T1 nT1 => ?_⟩⟩
        obtain ⟨acc, eF, hF⟩ := ls.all
        have sT : Same H5 (upd (upd H5 T0 (.tup [])) T1 (.tup [.ref T0, .ref F])) := (same_new nT0).trans (same_new nT1)
        have bT : Bg (upd (upd H5 T0 (.tup [])) T1 (.tup [.ref T0, .ref F])) b c := (b5.new nT0).new nT1
        refine ⟨T1, F, .ref T0, acc, fs, rfl, sqt_of upd_same, sT _ _ eF, DpAll.mono sT (DpAll.mono off_le hF), fun f hf => Nat.le_trans (fok.ci f hf).len m6, by omega, fun p xs es H6 np ep hp s6 => ?_⟩
        refine ⟨by decide, fun EL nE => ?_⟩
        have s7 : Same H5 (upd H6 EL (.lst [])) := (sT.trans s6).trans (same_new nE)
        have b7 : Bg (upd H6 EL (.lst [])) b c := b5.kp (Kp.of_same (S := []) s7) (by simp) (by simp)
        refine ⟨es, [], hd_lst (sql_of ((same_new nE) _ _ ep)) (DpAll.mono (same_new nE) hp), hd_lst (sql_of upd_same) .nil, _, rfl, ite2 (fun _ => ?_) (fun _ => ?_)⟩
        · refine ⟨.ref b, rfl, .int (m : Int), rfl, .ref F, rfl, b, c, F, m, fs, rfl, b7, m1, m6, ls.kp (T := []) (Kp.of_same s7) (by simp) (by simp), Fb, fok, by omega, fun G gs H8 nG lsG gok gl k8 b8 => ?_⟩
          exact ⟨_, _, _, _, G, gs, rfl, lsG, b7.ne nG, gok, by omega, (k5.trans (Kp.of_same s7)).trans k8, b8⟩
        · exact ⟨_, _, _, _, F, fs, rfl, ls.kp (T := []) (Kp.of_same s7) (by simp) (by simp), Fb, fok, by omega, k5.trans (Kp.of_same s7), b7⟩
      · rintro σ H5 ⟨y1, y4, y6, y7, F, fs, rfl, ls, Fb, fok, fl, k5, b5⟩
        exact ⟨_, _, _, _, F, m, fs, rfl, m1, m6, ls, Fb, fok, by omega, k5, b5, fun _ _ => rfl⟩
    · refine ⟨.int r, rfl, rfl, _, rfl, ite2 (fun _ => ?_) (fun _ => ?_)⟩
      · refine ⟨.int (m : Int), rfl, _, _, rfl, rfl, _, rfl, ite2 (fun h2 => ?_) (fun _ => ?_)⟩
        · have m2 : 2 ≤ m := by
            have := of_decide_eq_true h2
            omega
          refine ⟨.ref b, rfl, .int (m : Int), rfl, (m : Int), rfl, RgOk.of_le (by omega) (by omega) (by omega) (by omega), fun L4 nL4 => ?_⟩
          have L4b := b3.ne nL4
          have hrg : rgV 0 (m : Int) = ((List.range m).map fun i => (0 : Int) + (i : Nat)).map V.int := by
            unfold rgV
            rw [List.map_map, Int.sub_zero, Int.toNat_natCast]
            rfl
          rw [hrg]
          refine ⟨b, c, L4, _, rfl, b3.new nL4, sql_of (off_of (by simpa using L4b) upd_same), by simp; omega, fun YL H5 ys nY eY pY k5' b5 => ?_⟩
          obtain ⟨zs, p1, rfl⟩ := perm_map_ex (f := V.int) pY rfl
          have k5 : Kp [b] H H5 := k3.trans ((Kp.new nL4).trans k5')
          have zl : zs.length = m := by rw [p1.length_eq]; simp
          have znd : zs.Nodup := by
            refine p1.nodup_iff.mpr ?_
            rw [List.nodup_iff_pairwise_ne, List.pairwise_map]
            exact List.nodup_range.imp fun h e => h (by omega)
          have zrg : ∀ x ∈ zs, 0 ≤ x ∧ x < m := by
            intro x hx
            obtain ⟨i, hi, rfl⟩ := List.mem_map.mp (p1.mem_iff.mp hx)
            have := List.mem_range.mp hi
            omega
          refine ⟨2, rfl, YL, _, rfl, sql_of eY, fun S1 nS1 => ?_⟩
          rw [show cutV (zs.map V.int) none (some 2) = (zs.take 2).map V.int by rw [List.map_take]; exact cutTo _ 2]
          have tnd := znd.sublist (List.take_sublist 2 zs)
          have trg : ∀ x ∈ zs.take 2, 0 ≤ x ∧ x < m := fun x hx => zrg x (List.mem_of_mem_take hx)
          have tl : (zs.take 2).length = 2 := by rw [List.length_take]; omega
          revert tnd trg tl
          generalize zs.take 2 = os
          intro tnd trg tl
          refine ⟨_, S1, _, os, rfl, Same.refl _, .inl (sql_of upd_same), all_ints os, ints_lay os, ints_sortable os, fun ws ns q1 hp hpw hws nq1 => ?_⟩
          cases all_ints_inv hws
          have nasc := sorted_asc hp hpw tnd
          have nl : ns.length = 2 := by rw [hp.length_eq]; exact tl
          have nrg : ∀ x ∈ ns, 0 ≤ x ∧ x < m := fun x hx => trg x (hp.mem_iff.mp hx)
          obtain ⟨u, w, rfl⟩ : ∃ u w, ns = [u, w] := by
            match ns, nl with
            | [u, w], _ => exact ⟨u, w, rfl⟩
          have sq : Same H5 (upd (upd H5 S1 (.lst (os.map V.int))) q1 (.lst ([u, w].map V.int))) := (same_new nS1).trans (same_new nq1)
          have b6 : Bg (upd (upd H5 S1 (.lst (os.map V.int))) q1 (.lst ([u, w].map V.int))) b c := (b5.new nS1).new nq1
          have eq6 : (upd (upd H5 S1 (.lst (os.map V.int))) q1 (.lst ([u, w].map V.int))) q1 = some (.lst ([u, w].map V.int)) := upd_same
          have k6 : Kp [b] H (upd (upd H5 S1 (.lst (os.map V.int))) q1 (.lst ([u, w].map V.int))) := k5.trans (Kp.of_same sq)
          revert b6 eq6 k6
          generalize upd (upd H5 S1 (.lst (os.map V.int))) q1 (.lst ([u, w].map V.int)) = H6
          intro b6 eq6 k6
          refine ⟨.ref q1, rfl, q1, _, rfl, .inl ⟨sql_of eq6, fun t1 nt1 => ?_⟩⟩
          have t1q := ne_of_none eq6 nt1
          have t1b := b6.ne nt1
          refine ⟨.ref q1, rfl, q1, _, 0, .int u, rfl, rfl, sql_of (by rw [upd_ne t1q]; exact eq6), atI_nat (j := 0) rfl, len_ok (by simp), fun t2 nt2 => ?_⟩
          have b7 := b6.new (o := .tup ([u, w].map V.int)) nt1
          have t2b := b7.ne nt2
          have s7 : Same H6 (upd (upd H6 t1 (.tup ([u, w].map V.int))) t2 (.tup [.int u])) := (same_new nt1).trans (same_new nt2)
          have t12 := ne_of_none (show (upd H6 t1 (.tup ([u, w].map V.int))) t1 = _ from upd_same) nt2
          refine ⟨.ref q1, rfl, q1, _, 1, .int w, rfl, rfl, sql_of (s7 _ _ eq6), atI_nat (j := 1) rfl, len_ok (by simp), fun t3 nt3 => ?_⟩
          have b8 := b7.new (o := .tup [.int u]) nt2
          have t3b := b8.ne nt3
          have t23 := ne_of_none (show (upd (upd H6 t1 (.tup ([u, w].map V.int))) t2 (.tup [.int u])) t2 = _ from upd_same) nt3
          have t13 := ne_of_none (show (upd (upd H6 t1 (.tup ([u, w].map V.int))) t2 (.tup [.int u])) t1 = some (.tup ([u, w].map V.int)) by rw [upd_ne t12]; exact upd_same) nt3
          refine ⟨len_ok (by simp), fun LL nLL => ?_⟩
          have b9 := b8.new (o := .tup [.int w]) nt3
          have LLb := b9.ne nLL
          have b10 := b9.new (o := .lst [.ref t1, .ref t2, .ref t3]) nLL
          have k10 := (((k6.up (o := .tup ([u, w].map V.int)) nt1).up (o := .tup [.int u]) nt2).up (o := .tup [.int w]) nt3).up (o := .lst [.ref t1, .ref t2, .ref t3]) nLL
          have e1 : (upd (upd (upd H6 t1 (.tup ([u, w].map V.int))) t2 (.tup [.int u])) t3 (.tup [.int w])) t1 = some (.tup ([u, w].map V.int)) := by rw [upd_ne t13, upd_ne t12]; exact upd_same
          have e2 : (upd (upd (upd H6 t1 (.tup ([u, w].map V.int))) t2 (.tup [.int u])) t3 (.tup [.int w])) t2 = some (.tup ([u].map V.int)) := by rw [upd_ne t23]; exact upd_same
          have e3 : (upd (upd (upd H6 t1 (.tup ([u, w].map V.int))) t2 (.tup [.int u])) t3 (.tup [.int w])) t3 = some (.tup ([w].map V.int)) := upd_same
          have f1 := (same_new (o := .lst [.ref t1, .ref t2, .ref t3]) nLL) _ _ e1
          have f2 := (same_new (o := .lst [.ref t1, .ref t2, .ref t3]) nLL) _ _ e2
          have f3 := (same_new (o := .lst [.ref t1, .ref t2, .ref t3]) nLL) _ _ e3
          have fL : (upd (upd (upd (upd H6 t1 (.tup ([u, w].map V.int))) t2 (.tup [.int u])) t3 (.tup [.int w])) LL (.lst [.ref t1, .ref t2, .ref t3])) LL = some (.lst [.ref t1, .ref t2, .ref t3]) := upd_same
          revert b10 k10 f1 f2 f3 fL
          generalize upd (upd (upd (upd H6 t1 (.tup ([u, w].map V.int))) t2 (.tup [.int u])) t3 (.tup [.int w])) LL (.lst [.ref t1, .ref t2, .ref t3]) = H10
          intro b10 k10 f1 f2 f3 fL
          refine ⟨.ref b, rfl, .int (m : Int), rfl, b, c, m, 2, rfl, b10, m1, m6, by decide, by decide, fun G gs H11 nG lsG gok gl k11 b11 => ?_⟩
          obtain ⟨accG, eG, hG⟩ := lsG.all
          have lG := all_len hG
          rw [List.length_map] at lG
          have g1 := k11 _ _ (by simpa using t1b) f1
          have g2 := k11 _ _ (by simpa using t2b) f2
          have g3 := k11 _ _ (by simpa using t3b) f3
          have gL := k11 _ _ (by simpa using LLb) fL
          refine ⟨LL, G, _, accG, rfl, rfl, gL, eG, ?_, fun R nR => ?_⟩
          · have hz : sizeLine = 16777216 := by decide
            simp only [List.length_cons, List.length_nil]
            omega
          have Rb := b11.ne nR
          have tR1 := ne_of_none g1 nR
          have tR2 := ne_of_none g2 nR
          have tR3 := ne_of_none g3 nR
          have hall : HdAll K (off H11 [b]) ([.ref t1, .ref t2, .ref t3] ++ accG) (([u, w] :: [u] :: [w] :: gs).map Tup.mk) := by
            refine all_cons (hd_tup (sqt_of (off_of (by simpa using t1b) g1)) (all_ints _)) (all_cons (hd_tup (sqt_of (off_of (by simpa using t2b) g2)) (all_ints _)) (all_cons (hd_tup (sqt_of (off_of (by simpa using t3b) g3)) (all_ints _)) hG))
          have ciu : ∀ y, y ∈ [u, w] → Ci m [y] := fun y hy => ⟨by simp, List.pairwise_singleton _ _, fun z hz => by rw [List.mem_singleton] at hz; rw [hz]; exact nrg y hy⟩
          refine ⟨_, _, _, _, R, m, [u, w] :: [u] :: [w] :: gs, rfl, m1, m6, ⟨_, upd_same, DpAll.mono (fun a o e => ?_) hall⟩, Rb, ⟨by simp, fun f hf => ?_⟩, by simp; omega, (k10.trans k11).up nR, b11.new nR, fun _ _ => rfl⟩
          · obtain ⟨n1, e0⟩ := off_some e
            simp only [List.mem_cons, List.not_mem_nil, or_false] at n1
            have nR' := ne_of_none e0 nR
            exact off_of (by simp [nR', n1]) (by rw [upd_ne nR']; exact e0)
          · rcases List.mem_cons.mp hf with rfl | hf
            · exact ⟨by simp, nasc, nrg⟩
            rcases List.mem_cons.mp hf with rfl | hf
            · exact ciu u (by simp)
            rcases List.mem_cons.mp hf with rfl | hf
            · exact ciu w (by simp)
            exact gok.ci f hf
        · refine ⟨.ref b, rfl, .int (m : Int), rfl, .int (n : Int), rfl, b, c, m, n, rfl, b3, m1, m6, n1, n8, fun F fs H4 nF ls fok fl k4 b4 => ?_⟩
          exact ⟨_, _, _, _, F, m, fs, rfl, m1, m6, ls, b3.ne nF, fok, by omega, k3.trans k4, b4, fun _ _ => rfl⟩
      · refine ifF rfl ?_
        refine ⟨.ref b, rfl, .int (m : Int), rfl, .int (n : Int), rfl, b, c, m, n, rfl, b3, m1, m6, n1, n8, fun F fs H4 nF ls fok fl k4 b4 => ?_⟩
        exact ⟨_, _, _, _, F, m, fs, rfl, m1, m6, ls, b3.ne nF, fok, by omega, k3.trans k4, b4, fun _ _ => rfl⟩
end
end CB
set_option Elab.async false
set_option linter.all false
set_option maxRecDepth 100000
set_option maxHeartbeats 4000000
namespace CB
open PySem PySem.Spec
open PyProof.Rows L2
open PySem.W (Datum Tup DatumOrd)
/-! ### who is taken: the plain law -/
theorem run_put : ∀ (l : List Row), ∀ t ∈ runT l, ∃ j : Nat, l[j]? = some (.put t.1 t.2) := by
  refine snocInd ?_ ?_
  · intro t h; simp [runT] at h
  · intro l r ih t m
    have up : (∃ j : Nat, l[j]? = some (.put t.1 t.2)) → ∃ j : Nat, (l ++ [r])[j]? = some (.put t.1 t.2) := by
      rintro ⟨j, hj⟩
      exact ⟨j, by rw [List.getElem?_append_left (List.getElem?_eq_some_iff.mp hj).1]; exact hj⟩
    rw [runT_snoc] at m
    cases r with
    | put n k =>
      rcases List.mem_append.mp m with m | m
      · exact up (ih t m)
      · rw [List.mem_singleton] at m
        subst m
        exact ⟨l.length, by simp⟩
    | drop n => exact up (ih t (List.mem_filter.mp m).1)
    | call c =>
      cases e : firstOf c (runT l) with
      | none => rw [step_none e] at m; exact up (ih t m)
      | some t' => rw [step_some e] at m; exact up (ih t (List.mem_filter.mp m).1)
theorem find_nd {α : Type} [DecidableEq α] {β : Type} : ∀ {l : List (α × β)} {a : α} {b : β}, (l.map (·.1)).Nodup → (a, b) ∈ l → l.find? (fun p => decide (p.1 = a)) = some (a, b)
  | [], _, _, _, h => by cases h
  | p :: l, a, b, nd, h => by
    rw [List.map_cons, List.nodup_cons] at nd
    rw [List.find?_cons]
    rcases List.mem_cons.mp h with e | h
    · rw [← e]; simp
    · have hne : ¬ p.1 = a := fun e => nd.1 (List.mem_map.mpr ⟨(a, b), h, e.symm⟩)
      rw [decide_eq_false hne]
      exact find_nd nd.2 h
theorem putIx_of {log : List Row} (nd : (putNames log).Nodup) {j : Nat} {n k : Str} (h : log[j]? = some (.put n k)) : putIx log n = j := by
  have hj := (List.getElem?_eq_some_iff.mp h).1
  have hm : (n, j) ∈ putL log log.length := by
    unfold putL
    rw [List.mem_filterMap]
    exact ⟨j, List.mem_range.mpr hj, by unfold putRow; rw [h]⟩
  have hk := putK_nd nd log.length
  have hnd : ((putL log log.length).map (·.1)).Nodup := by
    have e : ((putK' (putL log log.length)).map (·.1)) = ((putL log log.length).map (·.1)).map (fun n => (Sum.inr n : Key)) := by
      unfold putK'
      rw [List.map_map, List.map_map]
      rfl
    rw [e] at hk
    exact hk.of_map _ (fun a b h h2 => h (by rw [h2]))
  unfold putIx
  rw [find_nd hnd hm]
  rfl
theorem told_some {log : List Row} {i : Nat} {n : Str} (h : toldAt log i = some n) : ∃ c t, log[i]? = some (.call c) ∧ firstOf c (runT (log.take i)) = some t ∧ t.1 = n := by
  unfold toldAt at h
  cases e : log[i]? with
  | none => rw [e] at h; cases h
  | some r =>
    rw [e] at h
    dsimp only at h
    cases r with
    | put a b => cases h
    | drop a => cases h
    | call c =>
      cases f : firstOf c (runT (log.take i)) with
      | none => rw [step_none f] at h; cases h
      | some t =>
        rw [step_some f] at h
        exact ⟨c, t, rfl, f, Option.some.inj h⟩
/-- the names taken by the first n rows -/
def tk (log : List Row) (n : Nat) : List Str := (List.range n).filterMap (toldAt log)
theorem tk_succ (log : List Row) (n : Nat) : tk log (n + 1) = tk log n ++ (toldAt log n).toList := by
  unfold tk
  rw [List.range_succ, List.filterMap_append]
  congr 1
theorem tk_inv {log : List Row} (nd : (putNames log).Nodup) : ∀ n, n ≤ log.length → (tk log n ++ (runT (log.take n)).map (·.1)).Nodup ∧ ∀ x ∈ tk log n, x ∈ putNames (log.take n)
  | 0, _ => ⟨by rw [List.take_zero]; exact List.nodup_nil, by intro x h; cases h⟩
  | n + 1, h => by
    obtain ⟨h1, h2⟩ := tk_inv nd n (by omega)
    obtain ⟨r, hr⟩ : ∃ r, log[n]? = some r := ⟨log[n]'(by omega), List.getElem?_eq_getElem (by omega)⟩
    have ht : log.take (n + 1) = log.take n ++ [r] := by rw [List.take_add_one, hr]; rfl
    have up : ∀ x ∈ tk log n, x ∈ putNames (log.take (n + 1)) := fun x hx => by
      rw [ht, putNames_snoc]; exact List.mem_append_left _ (h2 x hx)
    have hs : toldAt log n = (step (runT (log.take n)) r).2 := by unfold toldAt; rw [hr]
    have hsub := run_sub (log.take n)
    have nd' : (putNames (log.take (n + 1))).Nodup := nd.sublist (putNames_take log _)
    rw [tk_succ, runT_take hr]
    cases r with
    | put a k =>
      have e0 : toldAt log n = none := hs
      rw [e0, Option.toList_none, List.append_nil]
      refine ⟨?_, up⟩
      show (tk log n ++ (runT (log.take n) ++ [(a, k)]).map (·.1)).Nodup
      rw [List.map_append, ← List.append_assoc, List.nodup_append]
      refine ⟨h1, by simp, fun x hx y hy e => ?_⟩
      have hy' : y = a := by simpa using hy
      rw [ht, putNames_snoc, List.nodup_append] at nd'
      refine nd'.2.2 x ?_ a (by simp [Row.name?]) (by rw [e, hy'])
      rcases List.mem_append.mp hx with hx | hx
      · exact h2 x hx
      · exact hsub.subset hx
    | drop a =>
      have e0 : toldAt log n = none := hs
      rw [e0, Option.toList_none, List.append_nil]
      refine ⟨?_, up⟩
      exact h1.sublist (List.Sublist.append (List.Sublist.refl _) filter_map_sub)
    | call c =>
      cases f : firstOf c (runT (log.take n)) with
      | none =>
        rw [step_none f] at hs ⊢
        rw [hs, Option.toList_none, List.append_nil]
        exact ⟨h1, up⟩
      | some t =>
        rw [step_some f] at hs ⊢
        rw [hs]
        have htm := (firstOf_mem f).1
        have hnames : ((runT (log.take n)).map (·.1)).Nodup := (List.nodup_append.mp h1).2.1
        refine ⟨?_, fun x hx => ?_⟩
        · show ((tk log n ++ [t.1]) ++ ((runT (log.take n)).filter fun u => !decide (u = t)).map (·.1)).Nodup
          rw [List.append_assoc, List.nodup_append]
          obtain ⟨g1, g2, g3⟩ := List.nodup_append.mp h1
          refine ⟨g1, ?_, fun x hx y hy => ?_⟩
          · rw [List.singleton_append, List.nodup_cons]
            refine ⟨fun hm => ?_, g2.sublist filter_map_sub⟩
            obtain ⟨u, hu, e⟩ := List.mem_map.mp hm
            obtain ⟨hu1, hu2⟩ := List.mem_filter.mp hu
            have := inj_of_nodup hnames u hu1 t htm e
            simp [this] at hu2
          · rcases List.mem_append.mp hy with hy | hy
            · rw [List.mem_singleton] at hy
              rw [hy]
              exact g3 x hx t.1 (List.mem_map.mpr ⟨t, htm, rfl⟩)
            · exact g3 x hx y (filter_map_sub.subset hy)
        · rcases List.mem_append.mp hx with hx | hx
          · exact up x hx
          · have hx' : x = t.1 := by simpa using hx
            rw [hx', ht, putNames_snoc]
            exact List.mem_append_left _ (hsub.subset (List.mem_map.mpr ⟨t, htm, rfl⟩))
theorem taken_at (log : List Row) : takenL log = (List.range log.length).filterMap fun i => (toldAt log i).map fun n => (i, putIx log n) := by
  unfold takenL toldL
  rw [List.filterMap_filterMap]
  congr 1
  funext i
  unfold tellRow
  cases e : log[i]? with
  | none =>
    have : toldAt log i = none := by unfold toldAt; rw [e]
    rw [this]; rfl
  | some r =>
    cases r with
    | call c => rfl
    | put a k =>
      have : toldAt log i = none := by unfold toldAt; rw [e]; rfl
      rw [this]; rfl
    | drop a =>
      have : toldAt log i = none := by unfold toldAt; rw [e]; rfl
      rw [this]; rfl
theorem name_put {log : List Row} {n : Str} (h : n ∈ putNames log) : ∃ (j : Nat) (k : Str), log[j]? = some (.put n k) := by
  unfold putNames at h
  obtain ⟨r, hr, e⟩ := List.mem_filterMap.mp h
  obtain ⟨j, hj⟩ := List.mem_iff_getElem?.mp hr
  cases r with
  | put a k => cases e; exact ⟨j, k, hj⟩
  | call c => cases e
  | drop a => cases e
theorem taken_vals {log : List Row} (nd : (putNames log).Nodup) : ((takenL log).map (·.2)).Nodup := by
  have e : (takenL log).map (·.2) = (tk log log.length).map (putIx log) := by
    rw [taken_at]
    unfold tk
    rw [List.map_filterMap, List.map_filterMap]
    congr 1
    funext i
    cases toldAt log i <;> rfl
  obtain ⟨h1, h2⟩ := tk_inv nd log.length (Nat.le_refl _)
  rw [List.take_length] at h2
  rw [e]
  refine nodup_map_on (fun a ha b hb hab => ?_) (List.nodup_append.mp h1).1
  obtain ⟨i, k, hi⟩ := name_put (h2 a ha)
  obtain ⟨j, k', hj⟩ := name_put (h2 b hb)
  rw [putIx_of nd hi, putIx_of nd hj] at hab
  subst hab
  rw [hi] at hj
  cases hj
  rfl
theorem taken_pair {log : List Row} (nd : (putNames log).Nodup) {i j : Nat} (h : (i, j) ∈ takenL log) : ((i : Int), (j : Int)) ∈ pairsL log log.length := by
  rw [taken_at] at h
  obtain ⟨i', hi', e⟩ := List.mem_filterMap.mp h
  obtain ⟨n, hn, e2⟩ := Option.map_eq_some_iff.mp e
  cases e2
  obtain ⟨c, t, hc, hf, ht⟩ := told_some hn
  obtain ⟨m1, m2⟩ := firstOf_mem hf
  obtain ⟨j, hj⟩ := run_put _ t m1
  have hjl := (List.getElem?_eq_some_iff.mp hj).1
  rw [List.length_take] at hjl
  rw [List.getElem?_take_of_lt (by omega)] at hj
  rw [ht] at hj
  rw [putIx_of nd hj]
  unfold pairsL
  rw [List.mem_flatMap]
  refine ⟨i, hi', ?_⟩
  unfold pairsAt
  rw [hc]
  refine List.mem_map.mpr ⟨j, List.mem_filter.mpr ⟨List.mem_range.mpr (by omega), ?_⟩, rfl⟩
  unfold isPutIn
  rw [hj]
  exact decide_eq_true m2
theorem taken_len (log : List Row) : (takenL log).length ≤ log.length := by
  rw [taken_at]
  exact Nat.le_trans (List.length_filterMap_le _ _) (by rw [List.length_range]; exact Nat.le_refl _)
end CB
set_option Elab.async false
set_option linter.all false
set_option maxRecDepth 100000
set_option maxHeartbeats 2000000
namespace CB
open PySem PySem.Spec
open PyProof.Rows L2
section
variable {X : Cx} (K : PySem.W.Frag)
def rLenD : List V → Hp → VK → Prop := fun xs H Q => ∃ (a : Addr) (kvs : List (Key × V)), xs = [.ref a] ∧ H a = some (.dK kvs) ∧ Q (.int (kvs.length : Nat)) H
theorem k_lenD : CallR X (.builtin "len") rLenD := by
  intro pins s σ H xs us Q I r h
  obtain ⟨a, kvs, rfl, hd, q⟩ := h
  obtain ⟨u, rfl, rx⟩ := vals1 r
  obtain rfl : u = Value.ref a := rx
  exact d_len I (.inl hd) fun t s' I' => ⟨.int (kvs.length : Nat), H, I', ⟨t, rfl⟩, q⟩
theorem k_lenSetI {a : Expr} {ta : TE} {p p2 q pos : Pos} (hm : X.mg "len" = none) (hm2 : X.mg "set" = none) (ha : PE X a ta) (hg : Gl X "len" := by rfl) (hg2 : Gl X "set" := by rfl) (hc : X.calm = true := by rfl)
    (na : starEach [a] X.env = (false, eval a X.env) :: starEach [] X.env := by rfl) (hK : X.K = K := by rfl) : PE X (.Call (.Name "len" p) [.Call (.Name "set" p2) [a] [] q] [] pos) (RZ.tLenSetI K ta) := by
  subst hK
  exact RZ.pe_lenSetI hg hm hg2 hm2 ha hc na
end
end CB
set_option Elab.async false
set_option linter.all false
set_option maxRecDepth 100000
set_option maxHeartbeats 4000000
namespace CB
open PySem PySem.Spec
open PyProof.Rows L2
open PySem.W (Datum Tup DatumOrd)
/-! ### _law_is_giving -/
theorem fst_sub {l : List (Nat × Option Str)} {f : Str → Nat} : ((l.filterMap fun p => p.2.map fun n => (p.1, f n)).map (·.1)).Sublist (l.map (·.1)) := by
  induction l with
  | nil => exact List.Sublist.refl _
  | cons p l ih =>
    cases e : p.2 with
    | none => rw [List.filterMap_cons_none (by rw [e]; rfl), List.map_cons]; exact ih.cons _
    | some n => rw [List.filterMap_cons_some (by rw [e]; rfl), List.map_cons, List.map_cons]; exact ih.cons₂ _
theorem taken_nd (log : List Row) : ((takenK (takenL log)).map (·.1)).Nodup := by
  have e : ((takenK (takenL log)).map (·.1)) = ((takenL log).map (·.1)).map (fun i : Nat => (Sum.inl (i : Int) : Key)) := by
    unfold takenK
    rw [List.map_map, List.map_map]
    rfl
  rw [e]
  refine nodup_map_on (fun a _ b _ h => ?_) ((told_nd log log.length).sublist fst_sub)
  have := Sum.inl.inj h
  omega
section
variable {K : PySem.W.Frag} {H : Hp} {td : Addr} {kd : List (Key × V)}
theorem off_rd {a : Addr} {o : HO} (ht : H td = some (.dK kd)) (ho : ∀ u, o ≠ .dK u) (h : Rd H a o) : Rd (off H [td]) a o := by
  have hne : a ≠ td := by
    intro e
    subst e
    rcases h with h | ⟨od, h⟩
    · rw [ht] at h; cases h; exact ho _ rfl
    · rw [ht] at h; cases h
  rcases h with h | ⟨od, h⟩
  · exact .inl (off_of (by simpa using hne) h)
  · exact .inr ⟨od, off_of (by simpa using hne) h⟩
theorem off_sqlD {a : Addr} {xs : List V} (ht : H td = some (.dK kd)) (h : SqL K H a xs) : SqL K (off H [td]) a xs := h.elim (fun h => .inl (off_rd ht (fun _ e => nomatch e) h)) .inr
theorem off_sqtD {a : Addr} {xs : List V} (ht : H td = some (.dK kd)) (h : SqT K H a xs) : SqT K (off H [td]) a xs := h.elim (fun h => .inl (off_rd ht (fun _ e => nomatch e) h)) .inr
mutual
/-- plain data lie apart from a dict -/
theorem Dp.offD (ht : H td = some (.dK kd)) : ∀ {v : V} {d : PyData}, Dp K H v d → Dp K (off H [td]) v d
  | _, _, .non => .non
  | _, _, .bl b => .bl b
  | _, _, .int i => .int i
  | _, _, .str x => .str x
  | _, _, .lst h1 h2 => .lst (off_sqlD ht h1) (DpAll.offD ht h2)
  | _, _, .tup h1 h2 => .tup (off_sqtD ht h1) (DpAll.offD ht h2)
theorem DpAll.offD (ht : H td = some (.dK kd)) : ∀ {vs : List V} {ds : List PyData}, DpAll K H vs ds → DpAll K (off H [td]) vs ds
  | _, _, .nil => .nil
  | _, _, .cons h1 h2 => .cons (Dp.offD ht h1) (DpAll.offD ht h2)
end
end
section
variable {P : Program} {w : World} {K : PySem.W.Frag} {mg : Str → Option Value} {base : Heap} {C p0 p1 p2 p3 : Addr}
def spGiving (K : PySem.W.Frag) : Sp := fun vs H Q _ => ∃ (lv : V) (td : Addr) (ks : List Str) (cs : List (List Str)) (log : List Row), vs = [lv, .ref td] ∧ Hd K H lv (Tup.mk log) ∧ LogOk ks cs log ∧ H td = some (.dK (takenK (takenL log))) ∧
  ∀ H', Same H H' → Q (.bl true) H'
abbrev s_law_is_giving : Stmt := topS 53
abbrev p_law_is_giving : List Str := ["_law_log_here", "_law_taken"]
theorem sc_law_is_giving : FnScope ["_law_log_here", "_law_taken", "_law_pairs", "_law_at"] ["_law_log_here", "_law_taken"] (defScope s_law_is_giving) := ⟨rfl, rfl, rfl, by decide +kernel, rfl, by decide +kernel, by decide +kernel⟩
theorem c_giving (D : Def K mg "_law_is_giving" s_law_is_giving p_law_is_giving) (B : Blt mg) (C_law_log_pairs : Cal P w K mg base "_law_log_pairs" p_law_log_pairs 1 (spPairs K)) :
    Cal P w K mg base "_law_is_giving" p_law_is_giving 2 (spGiving K) := by
  refine D.cal sc_law_is_giving (fun vs H Q E h => ?_) (fun f cdv A outer s H vs Q E hr h => ?_)
  · obtain ⟨lv, td, ks, cs, log, rfl, _⟩ := h; rfl
  · obtain ⟨lv, td, ks, cs, log, rfl, hl, ok, et, q⟩ := h
    refine ⟨_, (pss_cons (ps_set (i := 2) sc_law_is_giving.nd rfl (.inr rfl) (pe_cal C_law_log_pairs hr (pa_cons (pv 0) pa_nil)))
  (pss_one (ps_ret (pe_and (pe_cmpR (k_eqX K (List Int) hr.units) (pe_lock (pe_lc rfl sc_law_is_giving.nd (pi_keys (pv 1)) (blkOk_by (own := [("_law_at", 3)]) (by kernel_rfl)) (fun _ _ _ _ _ => (pg_name (i := 3) sc_law_is_giving.nd rfl (by first | exact .inl rfl | exact .inr rfl))) (fun _ _ _ _ _ => (pts_one (pt_cmpR (k_notInX K (Int × Int) hr.units) (pe_tup (pa_cons (pv 3) (pa_cons (pe_dget (hu_of hr) (pv 1) (pv 3) (fun _ _ => rfl)) pa_nil))) (pv 2) (by with_unfolding_all rfl)))) (fun _ _ _ _ _ => (pv 3)))) (pe_lst pa_nil) (nomark _)) (pe_one (pe_cmpR op_eq (k_lenSetI K B.len B.set (pe_listVals rfl (by rfl) B.list (pv 1))) (pe_callB k_lenD (by rfl) B.len (by decide +kernel) (pa_cons (pv 1) pa_nil)) (nomark _))))))), ?_⟩
    have ol := ok.len
    have tkl := taken_len log
    refine ⟨lv, rfl, lv, log, rfl, hl, by omega, fun PL H1 nPL lsP s1 => ?_⟩
    have et1 := s1 _ _ et
    obtain ⟨accP, eP, hP⟩ := lsP.all
    refine ⟨td, _, et1, trivial, fun od => ?_⟩
    have nTP : PL ≠ td := fun e => by rw [e, et] at nPL; cases nPL
    generalize hG : upd H1 td (.frz od (.dK (takenK (takenL log)))) = G
    have gT : G td = some (.frz od (.dK (takenK (takenL log)))) := by rw [← hG]; exact upd_same
    have sG : ∀ c o, c ≠ td → H1 c = some o → G c = some o := fun c o n e => by rw [← hG, upd_ne n]; exact e
    have sO : Same (off H1 [td]) G := fun c o e => by
      obtain ⟨n1, e1⟩ := off_some e
      exact sG c o (by simpa using n1) e1
    have hPG : HdAll K G accP (pairsL log log.length) := DpAll.mono sO (DpAll.offD et1 (DpAll.mono off_le hP))
    have ePG := sG _ _ nTP eP
    refine ⟨.ref td, rfl, td, od, rfl, .inl ⟨_, gT, fun D nD => ?_⟩⟩
    have nDT : D ≠ td := (ne_of_none gT nD).symm
    have nD1 : H1 D = none := by
      rw [← hG] at nD
      exact (up_none nD).2
    have kl : (takenK (takenL log)).length = (takenL log).length := by unfold takenK; rw [List.length_map]
    refine lc_it walk_keys (fun i H4 => Same G H4 ∧ H4 D = some (.lst [])) ⟨same_new nD, upd_same⟩ (fun i H4 _ t => t.1 _ _ gT) ?_ ?_
    · rintro i z H4' H4 hi ⟨s4, e4⟩ ⟨rfl, k, v, hk, rfl⟩
      obtain ⟨⟨x, y⟩, hj, ekv⟩ := map_get hk
      cases ekv
      have hget : DGet H4 td (.int (x : Int)) (some (.int (y : Int))) := .inl ⟨_, .inl (x : Int), .inr ⟨od, s4 _ _ gT⟩, rfl, (valV_at (taken_nd log) hk).symm⟩
      refine ⟨rfl, .int (x : Int), rfl, .ref td, rfl, .int (x : Int), rfl, td, _, rfl, hget, len_ok (by simp), fun T nT => ?_⟩
      have s5 : Same H4 (upd H4 T (.tup [.int (x : Int), .int (y : Int)])) := same_new nT
      have hmem := taken_pair ok.nd (List.mem_of_getElem? hj)
      refine ⟨.ref PL, rfl, ((x : Int), (y : Int)), pairsL log log.length, hd_pair (x := .int (x : Int)) (y := .int (y : Int)) (sqt_of upd_same) (hd_int _) (hd_int _), .inl (hd_lst (sql_of (s5 _ _ (s4 _ _ ePG))) (DpAll.mono (s4.trans s5) hPG)), _, rfl, ?_⟩
      exact ifF (by simp [hmem]) ⟨s4.trans s5, s5 _ _ e4⟩
    · rintro H4 ⟨s4, e4⟩
      refine ⟨s4 _ _ gT, ?_⟩
      have sF : Same H (upd H4 td (.dK (takenK (takenL log)))) := fun c o e => by
        by_cases hc : c = td
        · subst hc
          rw [et] at e; cases e
          exact upd_same
        · rw [upd_ne hc]
          exact s4 _ _ (sG _ _ hc (s1 _ _ e))
      have eD : (upd H4 td (.dK (takenK (takenL log)))) D = some (.lst []) := by rw [upd_ne nDT]; exact e4
      have eT : (upd H4 td (.dK (takenK (takenL log)))) td = some (.dK (takenK (takenL log))) := upd_same
      revert sF eD eT
      generalize upd H4 td (.dK (takenK (takenL log))) = H5
      intro sF eD eT
      refine ⟨by decide, fun EL nE => ?_⟩
      have s6 : Same H5 (upd H5 EL (.lst [])) := same_new nE
      refine ⟨[], [], hd_lst (sql_of (s6 _ _ eD)) .nil, hd_lst (sql_of upd_same) .nil, _, rfl, ?_⟩
      refine ifT (by simp) ?_
      have eT6 := s6 _ _ eT
      have sF6 := sF.trans s6
      revert eT6 sF6
      generalize upd H5 EL (.lst []) = H6
      intro eT6 sF6
      refine ⟨.ref td, rfl, td, _, rfl, eT6, fun L nL => ?_⟩
      have s7 : Same H6 (upd H6 L (.lst ((takenK (takenL log)).map (·.2)))) := same_new nL
      have hv : (takenK (takenL log)).map (·.2) = (((takenL log).map (·.2)).map fun n : Nat => (n : Int)).map V.int := by
        unfold takenK
        rw [List.map_map, List.map_map, List.map_map]
        rfl
      have hnd : (((takenL log).map (·.2)).map fun n : Nat => (n : Int)).Nodup := nodup_map_on (fun a _ b _ h => by omega) (taken_vals ok.nd)
      refine ⟨L, _, rfl, sql_of (by rw [upd_same, hv]), hnd, by simp only [List.length_map]; omega, ?_⟩
      refine ⟨.ref td, rfl, td, _, rfl, s7 _ _ eT6, rfl, ?_⟩
      have hb : decide (V.int (((((takenL log).map (·.2)).map fun n : Nat => (n : Int)).length : Nat)) = V.int ((takenK (takenL log)).length : Nat)) = true := by
        rw [kl, List.length_map, List.length_map]
        exact decide_eq_true rfl
      rw [hb]
      exact q _ (sF6.trans s7)
end
end CB
set_option Elab.async false
set_option linter.all false
set_option maxRecDepth 100000
set_option maxHeartbeats 4000000
namespace CB
open PySem PySem.Spec
open PyProof.Rows L2
open PySem.W (Datum Tup DatumOrd)
/-! ### the data that are compared -/
def oD : Option Str → PyData
  | none => .none
  | some x => .str x
def toldD (l : List (Nat × Option Str)) : PyData := .dict (l.map fun p => (.int (p.1 : Int), oD p.2))
def takenD (l : List (Nat × Nat)) : PyData := .dict (l.map fun p => (.int (p.1 : Int), .int (p.2 : Int)))
def amD (sk : List Str) (ts : List Th) : PyData := .dict (sk.map fun k => (.str k, .int (cntK ts k : Int)))
section
variable {K : PySem.W.Frag} {A H : Hp}
theorem dq_o (o : Option Str) : Dq K H (oV o) (oD o) := by
  cases o with
  | none => exact .non
  | some x => exact .str x
theorem kv_told : ∀ l : List (Nat × Option Str), DqKv K H (toldK l) (l.map fun p => ((.int (p.1 : Int) : PyData), oD p.2))
  | [] => .nil
  | p :: l => .cons (k := .inl (p.1 : Int)) (dq_o p.2) (kv_told l)
theorem kv_taken : ∀ l : List (Nat × Nat), DqKv K H (takenK l) (l.map fun p => ((.int (p.1 : Int) : PyData), (.int (p.2 : Int) : PyData)))
  | [] => .nil
  | p :: l => .cons (k := .inl (p.1 : Int)) (.int _) (kv_taken l)
theorem kv_am (ts : List Th) : ∀ l : List Str, DqKv K H (amK l ts) (l.map fun k => ((.str k : PyData), (.int (cntK ts k : Int) : PyData)))
  | [] => .nil
  | p :: l => .cons (k := .inr p) (.int _) (kv_am ts l)
theorem dq_told {t : Addr} {l : List (Nat × Option Str)} (e : H t = some (.dK (toldK l))) : Dq K H (.ref t) (toldD l) := .dic e (kv_told l)
theorem dq_taken {t : Addr} {l : List (Nat × Nat)} (e : H t = some (.dK (takenK l))) : Dq K H (.ref t) (takenD l) := .dic e (kv_taken l)
theorem dq_am {t : Addr} {l : List Str} {ts : List Th} (e : H t = some (.dK (amK l ts))) : Dq K H (.ref t) (amD l ts) := .dic e (kv_am ts l)
theorem dq_ints {t : Addr} {l : List Int} (e : H t = some (.lst (l.map V.int))) : Dq K H (.ref t) (.list (l.map PyData.int)) := .lst (sql_of e) (DpAll.dq (DpAll.ints l))
theorem dq_list2 {t : Addr} {x y : V} {d e : PyData} (h : H t = some (.lst [x, y])) (a : Dq K H x d) (b : Dq K H y e) : Dq K H (.ref t) (.list [d, e]) := .lst (sql_of h) (.cons a (.cons b .nil))
theorem dq_list3 {t : Addr} {x y z : V} {d e g : PyData} (h : H t = some (.lst [x, y, z])) (a : Dq K H x d) (b : Dq K H y e) (c : Dq K H z g) : Dq K H (.ref t) (.list [d, e, g]) := .lst (sql_of h) (.cons a (.cons b (.cons c .nil)))
end
theorem sm_list2 {n k m : Nat} {d e : PyData} (a : Sm n k d) (b : Sm n k e) (h : (n + 1) * 2 ≤ m) : Sm m (k + 1) (.list [d, e]) := sm_list (n := n) (k := k) (fun x hx => by
  rcases List.mem_cons.mp hx with rfl | hx
  · exact a
  · rw [List.mem_singleton] at hx; rw [hx]; exact b) h
theorem sm_list3 {n k m : Nat} {d e g : PyData} (a : Sm n k d) (b : Sm n k e) (c : Sm n k g) (h : (n + 1) * 3 ≤ m) : Sm m (k + 1) (.list [d, e, g]) := sm_list (n := n) (k := k) (fun x hx => by
  rcases List.mem_cons.mp hx with rfl | hx
  · exact a
  rcases List.mem_cons.mp hx with rfl | hx
  · exact b
  · rw [List.mem_singleton] at hx; rw [hx]; exact c) h
theorem log_nm {ks : List Str} {cs : List (List Str)} {log : List Row} (ok : LogOk ks cs log) : ∀ n ∈ putNames log, Nm n := by
  intro n hn
  unfold putNames at hn
  obtain ⟨r, hr, e⟩ := List.mem_filterMap.mp hn
  cases r with
  | put a k => cases e; exact ((ok.rows _ hr).put _ _ rfl).1
  | call c => cases e
  | drop a => cases e
theorem told_nm {ks : List Str} {cs : List (List Str)} {log : List Row} (ok : LogOk ks cs log) {i : Nat} {n : Str} (h : toldAt log i = some n) : Nm n := by
  obtain ⟨c, t, _, hf, rfl⟩ := told_some h
  have h1 := (firstOf_mem hf).1
  have h2 := (run_sub (log.take i)).subset (List.mem_map.mpr ⟨t, h1, rfl⟩)
  exact log_nm ok _ ((putNames_take log i).subset h2)
theorem sm_told {ks : List Str} {cs : List (List Str)} {log : List Row} (ok : LogOk ks cs log) : Sm 3000 1 (toldD (toldL log log.length)) := by
  have hl := toldL_len log log.length
  have ol := ok.len
  refine sm_dict (n := 6) (k := 0) (fun p hp => ?_) (by rw [List.length_map]; omega)
  obtain ⟨⟨i, o⟩, hm, rfl⟩ := List.mem_map.mp hp
  obtain ⟨e, _, hlt⟩ := told_mem hm
  refine ⟨(sm_int (by omega) (by show ((i : Nat) : Int) ≤ 1000; omega)).mono (by omega) (by omega), ?_⟩
  cases o with
  | none => exact sm_none.mono (by omega) (by omega)
  | some n => exact sm_str (told_nm ok e.symm)
theorem sm_taken {ks : List Str} {cs : List (List Str)} {log : List Row} (ok : LogOk ks cs log) : Sm 3000 1 (takenD (takenL log)) := by
  have hl := taken_len log
  have ol := ok.len
  refine sm_dict (n := 0) (k := 0) (fun p hp => ?_) (by rw [List.length_map]; omega)
  obtain ⟨⟨i, j⟩, hm, rfl⟩ := List.mem_map.mp hp
  have hij : i < log.length ∧ j < log.length := by
    rw [taken_at] at hm
    obtain ⟨i', hi', e⟩ := List.mem_filterMap.mp hm
    obtain ⟨n, hn, e2⟩ := Option.map_eq_some_iff.mp e
    cases e2
    have hi := List.mem_range.mp hi'
    obtain ⟨c, t, _, hf, rfl⟩ := told_some hn
    have h1 := (firstOf_mem hf).1
    have h2 := (run_sub (log.take i)).subset (List.mem_map.mpr ⟨t, h1, rfl⟩)
    obtain ⟨j, k, hj⟩ := name_put ((putNames_take log i).subset h2)
    have h3 := putIx_of ok.nd hj
    have h4 := (List.getElem?_eq_some_iff.mp hj).1
    exact ⟨hi, by rw [h3]; exact h4⟩
  exact ⟨sm_int (by show (0 : Int) ≤ (i : Nat); omega) (by show ((i : Nat) : Int) ≤ 1000; omega), sm_int (by show (0 : Int) ≤ (j : Nat); omega) (by show ((j : Nat) : Int) ≤ 1000; omega)⟩
theorem sm_served {ks : List Str} {cs : List (List Str)} {log : List Row} (ok : LogOk ks cs log) : Sm 3000 1 (.list ((servedL log log.length).map PyData.int)) := by
  have hl := served_len log log.length
  have ol := ok.len
  refine sm_list (n := 0) (k := 0) (fun d hd => ?_) (by rw [List.length_map]; omega)
  obtain ⟨x, hx, rfl⟩ := List.mem_map.mp hd
  unfold servedL at hx
  obtain ⟨i, hi, rfl⟩ := List.mem_map.mp hx
  have h1 := List.mem_range.mp hi
  have h2 : cnt log i ≤ i := by
    unfold cnt
    exact Nat.le_trans (List.length_filter_le _ _) (by rw [List.length_range]; exact Nat.le_refl _)
  exact sm_int (by omega) (by omega)
theorem run_ok {ks : List Str} {cs : List (List Str)} {log : List Row} (ok : LogOk ks cs log) (m : Nat) : ∀ t ∈ runT (log.take m), Nm t.1 ∧ t.2 ∈ ks := fun t ht => by
  have h2 := (run_sub (log.take m)).subset (List.mem_map.mpr ⟨t, ht, rfl⟩)
  exact ⟨log_nm ok _ ((putNames_take log m).subset h2), run_kinds _ (ok.take m).rows t ht⟩
theorem sm_things {ks : List Str} {cs : List (List Str)} {log : List Row} (vh : VH ks cs) (ok : LogOk ks cs log) (m : Nat) : Sm 3000 2 (Datum.toD (runT (log.take m))) := by
  have hl := run_len (log.take m)
  have ol := ok.len
  rw [List.length_take] at hl
  refine sm_list (n := 14) (k := 1) (fun d hd => ?_) (by rw [List.length_map]; omega)
  obtain ⟨t, ht, rfl⟩ := List.mem_map.mp hd
  obtain ⟨h1, h2⟩ := run_ok ok m t ht
  refine sm_tuple (n := 6) (k := 0) (fun x hx => ?_) (by simp)
  rcases List.mem_cons.mp hx with rfl | hx
  · exact sm_str h1
  · rw [List.mem_singleton] at hx
    rw [hx]
    exact sm_str (vh.nm _ h2)
theorem sm_am {ks : List Str} {cs : List (List Str)} {log : List Row} (vh : VH ks cs) (ok : LogOk ks cs log) (m : Nat) {sk : List Str} (h : ∀ k ∈ sk, k ∈ ks) (hl : sk.length ≤ 6) : Sm 3000 1 (amD sk (runT (log.take m))) := by
  have h1 := run_len (log.take m)
  have ol := ok.len
  rw [List.length_take] at h1
  refine sm_dict (n := 6) (k := 0) (fun p hp => ?_) (by rw [List.length_map]; omega)
  obtain ⟨k, hk, rfl⟩ := List.mem_map.mp hp
  refine ⟨sm_str (vh.nm k (h k hk)), (sm_int (by show (0 : Int) ≤ (cntK _ k : Nat); omega) ?_).mono (by omega) (by omega)⟩
  have : cntK (runT (log.take m)) k ≤ (runT (log.take m)).length := List.length_filter_le _ _
  show ((cntK _ k : Nat) : Int) ≤ 1000
  omega
theorem srt_uniq : ∀ {xs ys : List Str}, xs.Perm ys → (xs.Pairwise fun a b => (DatumOrd.lt b a : Bool) = false) → (ys.Pairwise fun a b => (DatumOrd.lt b a : Bool) = false) → xs = ys
  | [], ys, h, _, _ => by rw [List.nil_perm.mp h]
  | x :: xs, [], h, _, _ => by have := h.length_eq; simp at this
  | x :: xs, y :: ys, h, h1, h2 => by
    rw [List.pairwise_cons] at h1 h2
    have e : x = y := by
      rcases List.mem_cons.mp (h.mem_iff.mp (List.mem_cons_self (a := x))) with z | z
      · exact z
      · rcases List.mem_cons.mp (h.mem_iff.mpr (List.mem_cons_self (a := y))) with z2 | z2
        · exact z2.symm
        · refine Classical.byContradiction fun ne => ?_
          have := str_tri (h1.1 y z2) ne
          rw [h2.1 x z] at this
          cases this
    subst e
    rw [srt_uniq (List.Perm.cons_inv h) h1.2 h2.2]
end CB
set_option Elab.async false
set_option linter.all false
set_option maxRecDepth 100000
set_option maxHeartbeats 4000000
namespace CB
open PySem PySem.Spec
open PyProof.Rows L2
open PySem.W (Datum Tup DatumOrd)
/-! ### _law_is_played_right -/
theorem told_get {log : List Row} {i : Nat} (hi : i < log.length) : (valV (toldK (toldL log log.length)) (.inl (i : Int))).getD .non = oV (toldAt log i) := by
  cases e : valV (toldK (toldL log log.length)) (.inl (i : Int)) with
  | some v =>
    have h1 := valV_in e
    unfold toldK at h1
    rw [List.map_map] at h1
    obtain ⟨⟨j, o⟩, hm, hj⟩ := List.mem_map.mp h1
    have hji : j = i := by
      have := Sum.inl.inj hj
      have h2 : (j : Int) = (i : Int) := this
      omega
    subst hji
    obtain ⟨m, hm2⟩ := List.mem_iff_getElem?.mp hm
    have hk : (toldK (toldL log log.length))[m]? = some (.inl (j : Int), oV o) := by
      unfold toldK
      rw [List.getElem?_map, hm2]; rfl
    have := valV_at (toldK_nd log log.length) hk
    rw [e] at this
    cases this
    rw [(told_mem hm).1]; rfl
  | none =>
    cases h : log[i]? with
    | none =>
      have : toldAt log i = none := by unfold toldAt; rw [h]
      rw [this]; rfl
    | some r =>
      have other : toldAt log i = none → (none : Option V).getD .non = oV (toldAt log i) := fun z => by rw [z]; rfl
      cases r with
      | put n k => exact other (by unfold toldAt; rw [h]; rfl)
      | drop n => exact other (by unfold toldAt; rw [h]; rfl)
      | call c =>
        exfalso
        obtain ⟨m, hm2⟩ := List.mem_iff_getElem?.mp (mem_told h hi)
        have hk : (toldK (toldL log log.length))[m]? = some (.inl (i : Int), oV (toldAt log i)) := by
          unfold toldK
          rw [List.getElem?_map, hm2]; rfl
        have := valV_at (toldK_nd log log.length) hk
        rw [e] at this
        cases this
section
variable {K : PySem.W.Frag} {A H : Hp}
theorem th_offB {b : Addr} {bs : List V} {v : V} {t : Th} (hb : H b = some (.lst bs)) (h : Hd K H v t) : Hd K (off H [b]) v t := by
  obtain ⟨a, x, y, rfl, hs, hx, hy⟩ := hd_pair_inv h
  cases hd_str_inv hx
  cases hd_str_inv hy
  refine hd_pair (x := .str t.1) (y := .str t.2) ?_ (hd_str _) (hd_str _)
  rcases hs with hs | hs
  · have hne : a ≠ b := by
      intro e
      subst e
      rcases hs with h | ⟨od, h⟩
      · rw [hb] at h; cases h
      · rw [hb] at h; cases h
    rcases hs with h | ⟨od, h⟩
    · exact .inl (.inl (off_of (by simpa using hne) h))
    · exact .inl (.inr ⟨od, off_of (by simpa using hne) h⟩)
  · exact .inr hs
theorem ths_offB {b : Addr} {bs : List V} (hb : H b = some (.lst bs)) : ∀ {vs : List V} {ts : List Th}, HdAll K H vs ts → HdAll K (off H [b]) vs ts
  | [], [], _ => .nil
  | _ :: _, [], h => by cases h
  | [], _ :: _, h => by cases h
  | v :: vs, t :: ts, .cons h1 h2 => .cons (th_offB (t := t) hb h1) (ths_offB (ts := ts) hb h2)
theorem lsd_offB {b : Addr} {x : Int} {bs : List V} (hb : H b = some (.lst (.int x :: bs))) {a : Addr} {ts : List Th} (h : LsD K H a ts) : LsD K (off H [b]) a ts := by
  obtain ⟨acc, e, hacc⟩ := h
  have hne : a ≠ b := by
    intro z
    subst z
    rw [hb] at e
    cases e
    cases ts with
    | nil => cases hacc
    | cons t ts =>
      cases hacc with
      | cons h1 h2 =>
        obtain ⟨a, x, y, e, _⟩ := hd_pair_inv (p := t) h1
        cases e
  exact ⟨acc, off_of (by simpa using hne) e, ths_offB hb hacc⟩
/-- the data that both sides are held against -/
structure RD (K : PySem.W.Frag) (A : Hp) (hv lv : V) (s t SV TK : Addr) (as : List Addr) (ks : List Str) (cs : List (List Str)) (log : List Row) : Prop where
  hh : Hd K A hv (hs ks cs)
  hl : Hd K A lv (Tup.mk log)
  es : A s = some (.lst (as.map V.ref))
  len : as.length = log.length + 1
  st : ∀ (j : Nat) a, as[j]? = some a → LsD K A a (runT (log.take j))
  et : A t = some (.dK (toldK (toldL log log.length)))
  esv : A SV = some (.lst ((servedL log log.length).map V.int))
  etk : A TK = some (.dK (takenK (takenL log)))
theorem RD.mono {B : Hp} {hv lv : V} {s t SV TK : Addr} {as : List Addr} {ks : List Str} {cs : List (List Str)} {log : List Row} (r : RD K A hv lv s t SV TK as ks cs log) (e : Same A B) : RD K B hv lv s t SV TK as ks cs log :=
  ⟨Dp.mono e r.hh, Dp.mono e r.hl, e _ _ r.es, r.len, fun j a h => (r.st j a h).mono e, e _ _ r.et, e _ _ r.esv, e _ _ r.etk⟩
end
section
variable {P : Program} {w : World} {K : PySem.W.Frag} {mg : Str → Option Value} {base : Heap} {C p0 p1 p2 p3 : Addr}
def spRight (K : PySem.W.Frag) : Sp := fun vs H Q _ => ∃ (b c : Addr) (hv lv : V) (ks : List Str) (cs : List (List Str)) (log : List Row), vs = [.ref b, hv, lv] ∧ Bg H b c ∧ Hd K (off H [b]) hv (hs ks cs) ∧ VH ks cs ∧ Hd K (off H [b]) lv (Tup.mk log) ∧ LogOk ks cs log ∧
  ∀ H', Kp [b] H H' → Bg H' b c → Q (.bl true) H'
abbrev s_law_is_played_right : Stmt := topS 52
abbrev p_law_is_played_right : List Str := ["_law_bag_here", "_law_house_here", "_law_log_here"]
theorem sc_law_is_played_right : FnScope ["_law_bag_here", "_law_house_here", "_law_log_here", "_law_states", "_law_told", "_law_puts", "_law_served", "_law_at", "_law_taken", "_law_again", "_law_found", "_law_moments", "_law_moment", "_law_there", "_law_amounts", "_law_counts", "_law_kind", "_law_one_here"] ["_law_bag_here", "_law_house_here", "_law_log_here"] (defScope s_law_is_played_right) := ⟨rfl, rfl, rfl, by decide +kernel, rfl, by decide +kernel, by decide +kernel⟩
theorem c_right (D : Def K mg "_law_is_played_right" s_law_is_played_right p_law_is_played_right) (B : Blt mg) (C_law_played : Cal P w K mg base "_law_played" p_law_played 9 (spPlayed K)) (C_law_put_indexes : Cal P w K mg base "_law_put_indexes" p_law_put_indexes 9 (spPutIx K))
    (C_told_by : Cal P w K mg base "told_by" p_told_by 9 (spTold K)) (C_taken_by : Cal P w K mg base "taken_by" p_taken_by 9 (spTaken K)) (C_served_at : Cal P w K mg base "served_at" p_served_at 9 (spServed K))
    (C_law_alike : CalG P w K mg base "_law_alike" p_law_alike 9 (spAlike K)) (C_law_mixed : Cal P w K mg base "_law_mixed" p_law_mixed 9 (spMixed K)) (C_there_at : Cal P w K mg base "there_at" p_there_at 9 (spThereAt K)) (C_amounts_at : Cal P w K mg base "amounts_at" p_amounts_at 9 (spAmountsAt K)) :
    CalG P w K mg base "_law_is_played_right" p_law_is_played_right 10 (spRight K) := by
  refine D.calG sc_law_is_played_right (fun vs H Q E h => ?_) (fun f cdv A outer s H vs Q E hg h => ?_)
  · obtain ⟨b, c, hv, lv, ks, cs, log, rfl, _⟩ := h; rfl
  · obtain ⟨b, c, hv, lv, ks, cs, log, rfl, hb, hh, vh, hl, ok, q⟩ := h
    have hr := hg.rm
    have ol := ok.len
    have hh0 : Hd K H hv (hs ks cs) := Dp.mono off_le hh
    have hl0 : Hd K H lv (Tup.mk log) := Dp.mono off_le hl
    obtain ⟨la, xs, rfl, hlaO, hxsO⟩ := hd_tup_inv hl
    have hla : SqT K H la xs := off_sqt hlaO
    have hxs : HdAll K H xs log := DpAll.mono off_le hxsO
    have xl : xs.length = log.length := all_len hxs
    refine ⟨_, (pss_cons (ps_asg (pe_cal C_law_played hr (pa_cons (pv 1) (pa_cons (pv 2) pa_nil))) (k_tup K (n := 2) rfl (pgs_cons (pg_name (i := 3) sc_law_is_played_right.nd rfl (by first | exact .inl rfl | exact .inr rfl)) (pgs_cons (pg_name (i := 4) sc_law_is_played_right.nd rfl (by first | exact .inl rfl | exact .inr rfl)) pgs_nil))))
  (pss_cons (ps_asg (pe_tup (pa_cons (pe_cal C_law_put_indexes hr (pa_cons (pv 2) pa_nil)) (pa_cons (pe_lst (pa_cons pe_int pa_nil)) pa_nil))) (k_tup K (n := 2) rfl (pgs_cons (pg_name (i := 5) sc_law_is_played_right.nd rfl (by first | exact .inl rfl | exact .inr rfl)) (pgs_cons (pg_name (i := 6) sc_law_is_played_right.nd rfl (by first | exact .inl rfl | exact .inr rfl)) pgs_nil))))
  (pss_cons (ps_for PassesOwn.never rfl (pi_range1 (by rfl) B.range (pa_cons (pe_callB (k_len K) (by rfl) B.len (by decide +kernel) (pa_cons (pv 2) pa_nil)) pa_nil)) (pg_name (i := 7) sc_law_is_played_right.nd rfl (by first | exact .inl rfl | exact .inr rfl))
  (pss_one (ps_expr (k_bm K PySem.F.plainAttrs_list PySem.F.slot_list_append PySem.F.type_list_append mt_append (pv 6) (pa_cons (pe_op op_add (pe_ix (k_ixL K) (pv 6) (pe_un un_neg pe_int) (fun _ _ => rfl)) (pe_callTy call_int1 (by rfl) B.int (by decide +kernel) (pa_cons (pe_cmpR op_notN (pe_dget2 (hu_of hr) (pv 4) (pv 7) pe_non ⟨rfl, rfl, rfl, rfl⟩) pe_non (nomark _)) pa_nil))) pa_nil)))))
  (pss_cons (ps_set (i := 8) sc_law_is_played_right.nd rfl (.inl rfl) (pe_callTy (k_dict K) (by rfl) B.dict (by decide +kernel) (pa_cons (pe_lock (pe_lc rfl sc_law_is_played_right.nd (pi_keys (pv 4)) (blkOk_by (own := [("_law_at", 7)]) (by kernel_rfl)) (fun _ _ _ _ _ => (pg_name (i := 7) sc_law_is_played_right.nd rfl (by first | exact .inl rfl | exact .inr rfl))) (fun _ _ _ _ _ => (pts_one (pt_cmpR op_notN (pe_dget (hu_of hr) (pv 4) (pv 7) (fun _ _ => rfl)) pe_non (nomark _)))) (fun _ _ _ _ _ => (pe_tup (pa_cons (pv 7) (pa_cons (pe_dget (hu_of hr) (pv 5) (pe_dget (hu_of hr) (pv 4) (pv 7) (fun _ _ => rfl)) (fun _ _ => rfl)) pa_nil)))))) pa_nil)))
  (pss_by (fun D σ H1 => ∃ s t PD SV TK as y7 y9 y10 y11 y12 y13 y14 y15 y16 y17, σ = [some (.ref b), some hv, some (.ref la), some (.ref s), some (.ref t), some (.ref PD), some (.ref SV), y7, some (.ref TK), y9, y10, y11, y12, y13, y14, y15, y16, y17] ∧ RD K (off H1 [b]) hv (.ref la) s t SV TK as ks cs log ∧ Kp [b] H H1 ∧ Bg H1 b c ∧ (∀ v H2, D.rt v H2 = Q v H2))
  (pss_cons (ps_for PassesOwn.never rfl (pi_range1 (by rfl) B.range (pa_cons pe_int pa_nil)) (pg_name (i := 9) sc_law_is_played_right.nd rfl (by first | exact .inl rfl | exact .inr rfl))
  (pss_cons (ps_set (i := 10) sc_law_is_played_right.nd rfl (.inl rfl) (pe_lst (pa_cons (pe_cal C_told_by hr (pa_cons (pv 1) (pa_cons (pv 2) pa_nil))) (pa_cons (pe_cal C_taken_by hr (pa_cons (pv 1) (pa_cons (pv 2) pa_nil))) (pa_cons (pe_cal C_served_at hr (pa_cons (pv 1) (pa_cons (pv 2) pa_nil))) pa_nil)))))
  (pss_cons (ps_if (pt_not (pt_val (pe_calG C_law_alike hg (pa_cons (pv 10) (pa_cons (pe_lst (pa_cons (pv 4) (pa_cons (pv 8) (pa_cons (pv 6) pa_nil)))) pa_nil)))))
  (pss_one (ps_ret pe_bl))
  pss_nil)
  (pss_cons (ps_expr (pe_dclear (pe_ix (k_ixL K) (pv 10) pe_int (fun _ _ => rfl))))
  (pss_cons (ps_expr (pe_dclear (pe_ix (k_ixL K) (pv 10) pe_int (fun _ _ => rfl))))
  (pss_one (ps_expr (k_bm K PySem.F.plainAttrs_list PySem.F.slot_list_append PySem.F.type_list_append mt_append (pe_ix (k_ixL K) (pv 10) pe_int (fun _ _ => rfl)) (pa_cons pe_non pa_nil)))))))))
  (pss_by (fun D σ H1 => ∃ s t PD SV TK as y7 y9 y10 y11 y12 y13 y14 y15 y16 y17, σ = [some (.ref b), some hv, some (.ref la), some (.ref s), some (.ref t), some (.ref PD), some (.ref SV), y7, some (.ref TK), y9, y10, y11, y12, y13, y14, y15, y16, y17] ∧ RD K (off H1 [b]) hv (.ref la) s t SV TK as ks cs log ∧ Kp [b] H H1 ∧ Bg H1 b c ∧ (∀ v H2, D.rt v H2 = Q v H2))
  (pss_cons (ps_set (i := 11) sc_law_is_played_right.nd rfl (.inl rfl) (pe_slice (k_slL K) (pe_cal C_law_mixed hr (pa_cons (pv 0) (pa_cons (pe_listRg rfl (by rfl) B.list (prg_1 (by rfl) B.range (pe_op op_add (pe_callB (k_len K) (by rfl) B.len (by decide +kernel) (pa_cons (pv 2) pa_nil)) pe_int))) pa_nil))) po_none (po_some pe_int)))
  (pss_cons (ps_for PassesOwn.never rfl (k_piL K (pe_op op_cat (pv 11) (pe_lst (pa_cons (pe_callB (k_len K) (by rfl) B.len (by decide +kernel) (pa_cons (pv 2) pa_nil)) (pa_cons pe_int pa_nil))))) (pg_name (i := 12) sc_law_is_played_right.nd rfl (by first | exact .inl rfl | exact .inr rfl))
  (pss_cons (ps_set (i := 13) sc_law_is_played_right.nd rfl (.inl rfl) (pe_cal C_there_at hr (pa_cons (pv 1) (pa_cons (pv 2) (pa_cons (pv 12) pa_nil)))))
  (pss_cons (ps_set (i := 14) sc_law_is_played_right.nd rfl (.inl rfl) (pe_callTy (k_dict K) (by rfl) B.dict (by decide +kernel) (pa_cons (pe_lc rfl sc_law_is_played_right.nd (k_piL K (pe_callB (k_sortX K Str hr.units) (by rfl) B.sorted (by decide +kernel) (pa_cons (pe_ix (k_ixT K) (pv 1) pe_int (fun _ _ => rfl)) pa_nil))) (blkOk_by (own := [("_law_kind", 16)]) (by kernel_rfl)) (fun _ _ _ _ _ => (pg_name (i := 16) sc_law_is_played_right.nd rfl (by first | exact .inl rfl | exact .inr rfl))) (fun _ _ _ _ _ => pts_nil) (fun _ _ _ _ _ => (pe_tup (pa_cons (pv 16) (pa_cons (pe_callB (k_len K) (by rfl) B.len (by decide +kernel) (pa_cons (pe_lc rfl sc_law_is_played_right.nd (k_piL K (pe_ix (k_ixL K) (pv 3) (pv 12) (fun _ _ => rfl))) (blkOk_by (own := [("_law_one_here", 17)]) (by kernel_rfl)) (fun _ _ _ _ _ => (pg_name (i := 17) sc_law_is_played_right.nd rfl (by first | exact .inl rfl | exact .inr rfl))) (fun _ _ _ _ _ => (pts_one (pt_cmpR op_eq (pe_ix (k_ixT K) (pv 17) pe_int (fun _ _ => rfl)) (pv 16) (nomark _)))) (fun _ _ _ _ _ => (pv 17))) pa_nil)) pa_nil))))) pa_nil)))
  (pss_cons (ps_set (i := 15) sc_law_is_played_right.nd rfl (.inl rfl) (pe_cal C_amounts_at hr (pa_cons (pv 1) (pa_cons (pv 2) (pa_cons (pv 12) pa_nil)))))
  (pss_cons (ps_if (pt_not (pt_val (pe_calG C_law_alike hg (pa_cons (pe_lst (pa_cons (pv 13) (pa_cons (pv 15) pa_nil))) (pa_cons (pe_lst (pa_cons (pe_ix (k_ixL K) (pv 3) (pv 12) (fun _ _ => rfl)) (pa_cons (pv 14) pa_nil))) pa_nil)))))
  (pss_one (ps_ret pe_bl))
  pss_nil)
  (pss_cons (ps_expr (pe_bm0 PySem.F.plainAttrs_list PySem.F.slot_list_reverse PySem.F.type_list_reverse mt_reverse (pv 13)))
  (pss_cons (ps_expr (k_bm K PySem.F.plainAttrs_list PySem.F.slot_list_append PySem.F.type_list_append mt_append (pv 13) (pa_cons pe_non pa_nil)))
  (pss_cons (ps_expr (pe_dclear (pv 15)))
  (pss_one (ps_if (pt_not (pt_val (pe_calG C_law_alike hg (pa_cons (pe_cal C_amounts_at hr (pa_cons (pv 1) (pa_cons (pv 2) (pa_cons (pv 12) pa_nil)))) (pa_cons (pv 14) pa_nil)))))
  (pss_one (ps_ret pe_bl))
  pss_nil))))))))))
  (pss_one (ps_ret pe_bl)))) ?cut306)) ?cut299))))), ?_⟩
    case cut299 =>
      rintro Dn σ H1 ⟨s, t, PD, SV, TK, as, y7, y9, y10, y11, y12, y13, y14, y15, y16, y17, rfl, rd, k1, b1, hrt⟩
      refine ⟨2, rfl, by decide, by decide, ?_⟩
      refine for_it (walk_range (lo := 0) (n := 2)) (fun i σ H2 => (∃ y7 y9 y10 y11 y12 y13 y14 y15 y16 y17, σ = [some (.ref b), some hv, some (.ref la), some (.ref s), some (.ref t), some (.ref PD), some (.ref SV), y7, some (.ref TK), y9, y10, y11, y12, y13, y14, y15, y16, y17]) ∧ Kp [b] H1 H2 ∧ Bg H2 b c)
        ⟨⟨_, _, _, _, _, _, _, _, _, _, rfl⟩, Kp.refl _ _, b1⟩ (fun _ _ _ _ _ => trivial) ?_ ?_
      · rintro i z σ H2' H2 hi ⟨⟨y7, y9, y10, y11, y12, y13, y14, y15, y16, y17, rfl⟩, k2, b2⟩ ⟨rfl, rfl⟩
        have rd2 := rd.mono (Kp.off' k2)
        have rd2' := rd2.mono off_le
        refine ⟨hv, rfl, .ref la, rfl, hv, .ref la, ks, cs, log, rfl, rd2'.hh, vh, rd2'.hl, ok, fun p1 H3 n1 e1 s3 => ?_⟩
        have rd3 := rd2'.mono s3
        refine ⟨hv, rfl, .ref la, rfl, hv, .ref la, ks, cs, log, rfl, rd3.hh, vh, rd3.hl, ok, fun p2 H4 n2 e2 s4 => ?_⟩
        have rd4 := rd3.mono s4
        refine ⟨hv, rfl, .ref la, rfl, hv, .ref la, ks, cs, log, rfl, rd4.hh, vh, rd4.hl, ok, fun p3 H5 n3 e3 s5 => ?_⟩
        refine ⟨len_ok (by simp), fun F nF => ?_⟩
        have e1' := s5 _ _ (s4 _ _ e1)
        have e2' := s5 _ _ e2
        have f1 := ne_of_none e1' nF
        have f2 := ne_of_none e2' nF
        have f3 := ne_of_none e3 nF
        have p12 : p1 ≠ p2 := ne_of_none e1 n2
        have p13 : p1 ≠ p3 := ne_of_none (s4 _ _ e1) n3
        have p23 : p2 ≠ p3 := ne_of_none e2 n3
        have s6 : Same H5 (upd H5 F (.lst [.ref p1, .ref p2, .ref p3])) := same_new nF
        refine ⟨.ref F, rfl, .ref t, rfl, .ref TK, rfl, .ref SV, rfl, len_ok (by simp), fun R nR => ?_⟩
        have s7 : Same (upd H5 F (.lst [.ref p1, .ref p2, .ref p3])) (upd (upd H5 F (.lst [.ref p1, .ref p2, .ref p3])) R (.lst [.ref t, .ref TK, .ref SV])) := same_new nR
        have eF7 := s7 _ _ (show (upd H5 F (.lst [.ref p1, .ref p2, .ref p3])) F = some (.lst [.ref p1, .ref p2, .ref p3]) from upd_same)
        have eR7 : (upd (upd H5 F (.lst [.ref p1, .ref p2, .ref p3])) R (.lst [.ref t, .ref TK, .ref SV])) R = some (.lst [.ref t, .ref TK, .ref SV]) := upd_same
        have s57 := s6.trans s7
        have s27 := ((s3.trans s4).trans s5).trans s57
        revert s57 s27 eF7 eR7
        generalize upd (upd H5 F (.lst [.ref p1, .ref p2, .ref p3])) R (.lst [.ref t, .ref TK, .ref SV]) = H7
        intro eF7 eR7 s57 s27
        have rd7 := rd2'.mono s27
        have g1 := s57 _ _ e1'
        have g2 := s57 _ _ e2'
        have g3 := s57 _ _ e3
        have k7 : Kp [b] H1 H7 := k2.trans (Kp.of_same s27)
        have b7 : Bg H7 b c := b2.kp (Kp.of_same (S := []) s27) (by simp) (by simp)
        have m1 : H1 p1 = none := b2.free k2 n1
        have m2 : H1 p2 = none := b2.free k2 (s3.free n2)
        have m3 : H1 p3 = none := b2.free k2 ((s3.trans s4).free n3)
        refine ⟨.ref F, .ref R, _, rfl, dq_list3 eF7 (dq_told g1) (dq_taken g2) (dq_ints g3), dq_list3 eR7 (dq_told rd7.et) (dq_taken rd7.etk) (dq_ints rd7.esv), (sm_list3 (m := 1000000) (sm_told ok) (sm_taken ok) (sm_served ok) (by decide)).mono (by decide) (by decide), ?_⟩
        refine ⟨true, rfl, ifF rfl ?_⟩
        refine ⟨.ref F, rfl, F, _, 0, .ref p1, rfl, rfl, sql_of eF7, atI_nat (j := 0) rfl, .inr (.inr (.inl ⟨rfl, .inl ⟨_, g1⟩⟩)), p1, _, rfl, rfl, g1, ?_⟩
        refine ⟨.ref F, rfl, F, _, 1, .ref p2, rfl, rfl, sql_of (by rw [upd_ne f1.symm]; exact eF7), atI_nat (j := 1) rfl, .inr (.inr (.inl ⟨rfl, .inl ⟨_, by rw [upd_ne p12.symm]; exact g2⟩⟩)), p2, _, rfl, rfl, by rw [upd_ne p12.symm]; exact g2, ?_⟩
        have g3' : (upd (upd H7 p1 (.dK [])) p2 (.dK [])) p3 = some (.lst ((servedL log log.length).map V.int)) := by rw [upd_ne p23.symm, upd_ne p13.symm]; exact g3
        refine ⟨.ref F, rfl, F, _, 2, .ref p3, rfl, rfl, sql_of (by rw [upd_ne f2.symm, upd_ne f1.symm]; exact eF7), atI_nat (j := 2) rfl, .inl ⟨rfl, _, sql_of g3'⟩, p3, _, _, rfl, rfl, g3', small1000 (by rw [List.length_map, served_len]; omega), ?_⟩
        refine ⟨⟨_, _, _, _, _, _, _, _, _, _, rfl⟩, ((k7.wf m1).wf m2).wf m3, ?_⟩
        exact ((b7.wr (b1.ne m1) (b1.nec m1)).wr (b1.ne m2) (b1.nec m2)).wr (b1.ne m3) (b1.nec m3)
      · rintro σ H2 ⟨⟨y7, y9, y10, y11, y12, y13, y14, y15, y16, y17, rfl⟩, k2, b2⟩
        exact ⟨s, t, PD, SV, TK, as, _, _, _, _, _, _, _, _, _, _, rfl, rd.mono (Kp.off' k2), k1.trans k2, b2, hrt⟩
    case cut306 =>
      rintro Dn σ H1 ⟨s, t, PD, SV, TK, as, y7, y9, y10, y11, y12, y13, y14, y15, y16, y17, rfl, rd, k1, b1, hrt⟩
      have hlaH1 : SqT K H1 la xs := off_sqt (Same.sqt k1.off' (show SqT K (off H [b]) la xs from hlaO))
      refine ⟨.ref b, rfl, .ref la, rfl, la, xs, rfl, .inr hlaH1, _, _, rfl, rfl, _, rfl, RgOk.of_le (by omega) (by omega) (by omega) (by omega), fun L1 nL1 => ?_⟩
      have L1b := b1.ne nL1
      refine ⟨b, c, L1, _, rfl, b1.new nL1, sql_of (off_of (by simpa using L1b) upd_same), by rw [rgV_length]; omega, fun YL H3 ys nY eY pY k3' b3 => ?_⟩
      have k3 : Kp [b] H1 H3 := (Kp.new nL1).trans k3'
      refine ⟨20, rfl, YL, _, rfl, sql_of eY, fun S1 nS1 => ?_⟩
      have s4 : Same H3 (upd H3 S1 (.lst (cutV ys none (some 20)))) := same_new nS1
      have eS1 : (upd H3 S1 (.lst (cutV ys none (some 20)))) S1 = some (.lst (cutV ys none (some 20))) := upd_same
      have hms : ∀ v ∈ cutV ys none (some 20), ∃ j : Nat, v = .int (j : Int) ∧ j ≤ log.length := by
        intro v hv
        have h1 := pY.mem_iff.mp (cut_mem hv)
        unfold rgV at h1
        obtain ⟨i, hi, rfl⟩ := List.mem_map.mp h1
        have := List.mem_range.mp hi
        exact ⟨i, by rw [Int.zero_add], by omega⟩
      have hmsl : (cutV ys none (some 20)).length ≤ 1000 := by
        have h1 := cutV_length ys none (some 20)
        have h2 := pY.length_eq
        rw [rgV_length] at h2
        omega
      revert s4 eS1 hms hmsl
      generalize cutV ys none (some 20) = ms
      generalize upd H3 S1 (.lst ms) = H4
      intro s4 eS1 hms hmsl
      have b4 : Bg H4 b c := b3.kp (Kp.of_same (S := []) s4) (by simp) (by simp)
      have k4 : Kp [b] H1 H4 := k3.trans (Kp.of_same s4)
      have hla4 : SqT K H4 la xs := off_sqt (Same.sqt (k1.trans k4).off' hlaO)
      refine ⟨.ref S1, rfl, .ref la, rfl, la, xs, rfl, .inr hla4, len_ok (by simp), fun L2 nL2 => ?_⟩
      have S12 := ne_of_none eS1 nL2
      refine ⟨S1, L2, _, _, rfl, rfl, by rw [upd_ne S12]; exact eS1, upd_same, ?_, fun L3 nL3 => ?_⟩
      · have hz : sizeLine = 16777216 := by decide
        simp only [List.length_cons, List.length_nil]
        omega
      refine ⟨L3, rfl, ⟨_, sql_of upd_same⟩, ?_⟩
      have s5 : Same H4 (upd (upd H4 L2 (.lst [.int (xs.length : Nat), .int 0])) L3 (.lst (ms ++ [.int (xs.length : Nat), .int 0]))) := (same_new nL2).trans (same_new nL3)
      have eL3 : (upd (upd H4 L2 (.lst [.int (xs.length : Nat), .int 0])) L3 (.lst (ms ++ [.int (xs.length : Nat), .int 0]))) L3 = some (.lst (ms ++ [.int (xs.length : Nat), .int 0])) := upd_same
      have b5 := (b4.new (o := .lst [.int (xs.length : Nat), .int 0]) nL2).new (o := .lst (ms ++ [.int (xs.length : Nat), .int 0])) nL3
      have L3b := (b4.new (o := .lst [.int (xs.length : Nat), .int 0]) nL2).ne nL3
      have hms2 : ∀ v ∈ ms ++ [.int (xs.length : Nat), .int 0], ∃ j : Nat, v = .int (j : Int) ∧ j ≤ log.length := by
        intro v hv
        rcases List.mem_append.mp hv with h | h
        · exact hms v h
        · rcases List.mem_cons.mp h with rfl | h
          · exact ⟨xs.length, rfl, by omega⟩
          · rw [List.mem_singleton] at h
            exact ⟨0, h, by omega⟩
      revert s5 eL3 b5 hms2
      generalize ms ++ [.int (xs.length : Nat), .int 0] = ms2
      generalize upd (upd H4 L2 (.lst [.int (xs.length : Nat), .int 0])) L3 (.lst ms2) = H5
      intro s5 eL3 b5 hms2
      have k5 : Kp [b] H1 H5 := k4.trans (Kp.of_same s5)
      refine for_it (walk_list (xs := ms2)) (fun i σ H6 => (∃ y7 y9 y10 y11 y12 y13 y14 y15 y16 y17, σ = [some (.ref b), some hv, some (.ref la), some (.ref s), some (.ref t), some (.ref PD), some (.ref SV), y7, some (.ref TK), y9, y10, y11, y12, y13, y14, y15, y16, y17]) ∧ Kp [b] H5 H6 ∧ Bg H6 b c)
        ⟨⟨_, _, _, _, _, _, _, _, _, _, rfl⟩, Kp.refl _ _, b5⟩ (fun i σ H6 _ u => sql_of (u.2.1 _ _ (by simpa using L3b) eL3)) ?_ ?_
      · rintro i z σ H6' H6 hi ⟨⟨y7, y9, y10, y11, y12, y13, y14, y15, y16, y17, rfl⟩, k6, b6⟩ ⟨rfl, hz⟩
        obtain ⟨j, rfl, hj⟩ := hms2 z (List.mem_of_getElem? hz)
        have rd6 := (rd.mono (Kp.off' (k5.trans k6))).mono off_le
        refine ⟨hv, rfl, .ref la, rfl, .int (j : Int), rfl, hv, .ref la, ks, cs, log, j, rfl, rd6.hh, vh, rd6.hl, ok, fun p1 H7 n1 ls1 s7 => ?_⟩
        have rd7 := rd6.mono s7
        obtain ⟨ha, x, y, rfl, hS, hx, hy⟩ := hd_house rd7.hh
        obtain ⟨ka, rfl, hka⟩ := hd_strT hx
        have hk6 := vh.k6
        refine ⟨.ref ha, rfl, ha, _, 0, .ref ka, rfl, rfl, hS, atI_nat (j := 0) rfl, H7, ka, _, ks, rfl, Same.refl _, .inr hka, all_strs ks, strs_lay fun z hz => nm_ok (vh.nm z hz), strs_sortable ks, fun ys sk q1 hp hs hys nq1 => ?_⟩
        cases all_strs_inv hys
        have hsl' := hp.length_eq
        refine ⟨q1, rfl, ⟨_, sql_of upd_same⟩, fun D nD => ?_⟩
        obtain ⟨nDq, nD7⟩ := up_none nD
        have s8 : Same H7 (upd H7 q1 (.lst (sk.map V.str))) := same_new nq1
        have eq8 : (upd H7 q1 (.lst (sk.map V.str))) q1 = some (.lst (sk.map V.str)) := upd_same
        have nD8 : (upd H7 q1 (.lst (sk.map V.str))) D = none := by rw [upd_ne nDq]; exact nD7
        revert s8 eq8 nD8
        generalize upd H7 q1 (.lst (sk.map V.str)) = H8
        intro s8 eq8 nD8
        have rd8 := rd7.mono s8
        have asl := rd8.len
        obtain ⟨a, ha'⟩ : ∃ a, as[j]? = some a := ⟨as[j]'(by omega), List.getElem?_eq_getElem (by omega)⟩
        obtain ⟨acc, ea8, hacc⟩ := rd8.st j a ha'
        have al := all_len hacc
        have rl := run_len (log.take j)
        rw [List.length_take] at rl
        have hatS : atI (as.map V.ref) (j : Int) = some (.ref a) := atI_nat (by rw [List.getElem?_map, ha']; rfl)
        refine lc_it (walk_list (xs := sk.map V.str)) (fun i H9 => Same H8 H9 ∧ ∃ ps, H9 D = some (.lst (ps.map V.ref)) ∧ Paired (fun p kv => H9 p = some (.tup [kV kv.1, kv.2])) ps (amK (sk.take i) (runT (log.take j))))
          ⟨same_new nD8, [], upd_same, .nil⟩ (fun i H9 _ u => sql_of (u.1 _ _ eq8)) ?_ ?_
        · rintro i z H9' H9 hi ⟨s9, ps, e9, hps⟩ ⟨rfl, hz⟩
          obtain ⟨k, hk, rfl⟩ := map_get hz
          have rd9 := rd8.mono s9
          have ea9 := s9 _ _ ea8
          refine ⟨rfl, .str k, rfl, .ref s, rfl, .int (j : Int), rfl, s, _, _, .ref a, rfl, rfl, sql_of rd9.es, hatS, a, rfl, ⟨_, sql_of ea9⟩, fun D2 nD2 => ?_⟩
          refine lc_it (walk_list (xs := acc)) (fun m H10 => Same H9 H10 ∧ ∃ bs, H10 D2 = some (.lst bs) ∧ bs.length = (((runT (log.take j)).take m).filter fun t => decide (t.2 = k)).length)
            ⟨same_new nD2, [], upd_same, rfl⟩ (fun m H10 _ u => sql_of (u.1 _ _ ea9)) ?_ ?_
          · rintro m z H10' H10 hm ⟨s10, bs, e10, bl⟩ ⟨rfl, hz⟩
            obtain ⟨th, hth, hd⟩ := all_get hacc hz
            obtain ⟨ta, x1, x2, rfl, hta, g1, g2⟩ := hd_pair_inv hd
            cases hd_str_inv g2
            refine ⟨rfl, .ref ta, rfl, ta, _, 1, .str th.2, rfl, rfl, Same.sqt (s9.trans s10) hta, atI_nat (j := 1) rfl, .str k, rfl, rfl, _, rfl, ?_⟩
            have hlen : bs.length < sizeLine := small1000 (by
              have h2 := List.length_filter_le (fun t : Th => decide (t.2 = k)) ((runT (log.take j)).take m)
              rw [List.length_take] at h2
              omega)
            by_cases hm2 : th.2 = k
            · refine ifT (by simp [hm2]) ⟨.ref ta, rfl, bs, e10, hlen, fun c o ec => ?_, _, upd_same, ?_⟩
              · rw [upd_ne (ne_of_none ec nD2)]; exact s10 _ _ ec
              · rw [List.take_add_one, hth]
                simp [hm2, bl]
            · refine ifF (by simp [hm2]) ⟨s10, bs, e10, ?_⟩
              rw [List.take_add_one, hth]
              simpa [hm2] using bl
          · rintro H10 ⟨s10, bs, e10, bl⟩
            rw [List.take_of_length_le (by omega)] at bl
            have s910 := s9.trans s10
            refine ⟨D2, bs, rfl, .inl (sql_of e10), len_ok (by simp), fun p np => ?_⟩
            have s11 : Same H10 (upd H10 p (.tup [.str k, .int (bs.length : Nat)])) := same_new np
            have e9' := s10 _ _ e9
            have pD := (ne_of_none e9' np).symm
            have psl := paired_len hps
            have aml : (amK (sk.take i) (runT (log.take j))).length ≤ 6 := by
              unfold amK
              rw [List.length_map, List.length_take]
              omega
            refine ⟨_, s11 _ _ e9', small1000 (by rw [List.length_map]; omega), fun a' u ea => ?_, ps ++ [p], by rw [upd_same, List.map_append]; rfl, ?_⟩
            · rw [upd_ne (ne_of_none ea nD8)]
              exact s11 _ _ (s10 _ _ (s9 _ _ ea))
            · rw [List.take_add_one, hk]
              have : amK (sk.take i ++ (some k).toList) (runT (log.take j)) = amK (sk.take i) (runT (log.take j)) ++ [(.inr k, .int (cntK (runT (log.take j)) k : Int))] := by unfold amK; rw [List.map_append]; rfl
              rw [this]
              refine paired_snoc (paired_mono hps fun a' kv h => ?_) ?_
              · have aD : a' ≠ D := by
                  intro e
                  rw [e, e9] at h
                  cases h
                rw [upd_ne aD]
                exact s11 _ _ (s10 _ _ h)
              · rw [upd_ne pD, upd_same]
                show some (HO.tup [.str k, .int (bs.length : Nat)]) = some (.tup [.str k, .int (cntK (runT (log.take j)) k : Nat)])
                rw [bl]
                rfl
        · rintro H9 ⟨s9, ps, e9, hps⟩
          rw [List.length_map, List.take_length] at hps
          refine ⟨D, ps, _, rfl, sql_of e9, paired_mono hps (fun _ _ h => sqt_of h), fun AM nAM => ?_⟩
          have sknd : sk.Nodup := hp.nodup_iff.mpr vh.nd
          have amnd : ((amK sk (runT (log.take j))).map (·.1)).Nodup := by
            have e : (amK sk (runT (log.take j))).map (·.1) = sk.map (fun k => (Sum.inr k : Key)) := by
              unfold amK
              rw [List.map_map]
              rfl
            rw [e]
            exact nodup_map_on (fun a _ b _ h => Sum.inr.inj h) sknd
          rw [show mergeK [] (amK sk (runT (log.take j))) = amK sk (runT (log.take j)) from merge_nd (kvs := []) (by rw [List.nil_append]; exact amnd)]
          have s10 : Same H9 (upd H9 AM (.dK (amK sk (runT (log.take j))))) := same_new nAM
          have eAM : (upd H9 AM (.dK (amK sk (runT (log.take j))))) AM = some (.dK (amK sk (runT (log.take j)))) := upd_same
          revert s10 eAM
          generalize upd H9 AM (.dK (amK sk (runT (log.take j)))) = H10
          intro s10 eAM
          have s710 := (s8.trans s9).trans s10
          have rd10 := rd7.mono s710
          refine ⟨.ref ha, rfl, .ref la, rfl, .int (j : Int), rfl, .ref ha, .ref la, ks, cs, log, j, rfl, rd10.hh, vh, rd10.hl, ok, fun p2 sk2 H11 n2 hs2 e2 s11 => ?_⟩
          have esk : sk2 = sk := srt_uniq (hs2.1.trans hp.symm) hs2.2 hs
          subst esk
          have skin : ∀ k ∈ sk2, k ∈ ks := fun k hk => hp.mem_iff.mp hk
          have sk6 : sk2.length ≤ 6 := by omega
          have smT := sm_things vh ok j
          have smA := sm_am vh ok j skin sk6
          have sm2 : Sm 1000000 50 (.list [Datum.toD (runT (log.take j)), amD sk2 (runT (log.take j))]) := (sm_list2 (m := 1000000) smT (smA.mono (Nat.le_refl _) (by decide)) (by decide)).mono (Nat.le_refl _) (by decide)
          have s711 := s710.trans s11
          have rd11 := rd7.mono s711
          have eAM11 := s11 _ _ eAM
          refine ⟨.ref p1, rfl, .ref p2, rfl, len_ok (by simp), fun F nF => ?_⟩
          have s12 : Same H11 (upd H11 F (.lst [.ref p1, .ref p2])) := same_new nF
          have eF12 : (upd H11 F (.lst [.ref p1, .ref p2])) F = some (.lst [.ref p1, .ref p2]) := upd_same
          revert s12 eF12
          generalize upd H11 F (.lst [.ref p1, .ref p2]) = H12
          intro s12 eF12
          refine ⟨.ref s, rfl, .int (j : Int), rfl, s, _, _, .ref a, rfl, rfl, sql_of (s12 _ _ rd11.es), hatS, .ref AM, rfl, len_ok (by simp), fun R nR => ?_⟩
          have s13 : Same H12 (upd H12 R (.lst [.ref a, .ref AM])) := same_new nR
          have eR13 : (upd H12 R (.lst [.ref a, .ref AM])) R = some (.lst [.ref a, .ref AM]) := upd_same
          revert s13 eR13
          generalize upd H12 R (.lst [.ref a, .ref AM]) = H13
          intro s13 eR13
          have s1113 := s12.trans s13
          have s713 := s711.trans s1113
          have rd13 := rd7.mono s713
          have ls13 := ls1.kp (T := []) (Kp.of_same s713) (by simp) (by simp)
          obtain ⟨acc1, ep13, hacc1⟩ := id ls13
          have al1 := all_len hacc1
          have e213 := s1113 _ _ e2
          have eAM13 := s1113 _ _ eAM11
          refine ⟨.ref F, .ref R, _, rfl, dq_list2 (s13 _ _ eF12) (Dp.dq (Dp.mono off_le (ls13.dp (by simp)))) (dq_am e213), dq_list2 eR13 (Dp.dq (rd13.st j a ha').hd) (dq_am eAM13), sm2, true, rfl, ifF rfl ?_⟩
          have ls7 := ls1
          obtain ⟨acc7, ep7, _⟩ := ls7
          have p1AM : p1 ≠ AM := ne_of_none ((s8.trans s9) _ _ ep7) nAM
          have p12 : p1 ≠ p2 := ne_of_none (s710 _ _ ep7) n2
          have AM2 : AM ≠ p2 := ne_of_none eAM n2
          have k13 : Kp [b] H5 H13 := k6.trans (Kp.of_same (s7.trans s713))
          have b13 : Bg H13 b c := b6.kp (Kp.of_same (S := []) (s7.trans s713)) (by simp) (by simp)
          have m1 : H5 p1 = none := b6.free k6 n1
          have m2 : H5 p2 = none := b6.free k6 ((s7.trans s710).free n2)
          refine ⟨.ref p1, rfl, .inl ⟨rfl, _, sql_of ep13⟩, p1, acc1, rfl, rfl, ep13, ?_⟩
          refine ⟨.ref p1, rfl, .inl ⟨rfl, _, sql_of upd_same⟩, p1, _, _, rfl, rfl, upd_same, small1000 (by rw [List.length_reverse]; omega), ?_⟩
          have e2b : (upd (upd H13 p1 (.lst acc1.reverse)) p1 (.lst (acc1.reverse ++ [.non]))) p2 = some (.dK (amK sk2 (runT (log.take j)))) := by rw [upd_ne p12.symm, upd_ne p12.symm]; exact e213
          refine ⟨.ref p2, rfl, .inr (.inr (.inl ⟨rfl, .inl ⟨_, e2b⟩⟩)), p2, _, rfl, rfl, e2b, ?_⟩
          have k16 : Kp [b] H5 (upd (upd (upd H13 p1 (.lst acc1.reverse)) p1 (.lst (acc1.reverse ++ [.non]))) p2 (.dK [])) := ((k13.wf m1).wf m1).wf m2
          have b16 : Bg (upd (upd (upd H13 p1 (.lst acc1.reverse)) p1 (.lst (acc1.reverse ++ [.non]))) p2 (.dK [])) b c := ((b13.wr (b5.ne m1) (b5.nec m1)).wr (b5.ne m1) (b5.nec m1)).wr (b5.ne m2) (b5.nec m2)
          have eAM16 : (upd (upd (upd H13 p1 (.lst acc1.reverse)) p1 (.lst (acc1.reverse ++ [.non]))) p2 (.dK [])) AM = some (.dK (amK sk2 (runT (log.take j)))) := by rw [upd_ne AM2, upd_ne p1AM.symm, upd_ne p1AM.symm]; exact eAM13
          revert k16 b16 eAM16
          generalize upd (upd (upd H13 p1 (.lst acc1.reverse)) p1 (.lst (acc1.reverse ++ [.non]))) p2 (.dK []) = H16
          intro k16 b16 eAM16
          have rd16 := (rd.mono (Kp.off' (k5.trans k16))).mono off_le
          refine ⟨.ref ha, rfl, .ref la, rfl, .int (j : Int), rfl, .ref ha, .ref la, ks, cs, log, j, rfl, rd16.hh, vh, rd16.hl, ok, fun p3 sk3 H17 n3 hs3 e3 s17 => ?_⟩
          have esk : sk3 = sk2 := srt_uniq (hs3.1.trans hp.symm) hs3.2 hs
          subst esk
          refine ⟨.ref AM, rfl, .ref p3, .ref AM, _, rfl, dq_am e3, dq_am (s17 _ _ eAM16), smA.mono (by decide) (by decide), true, rfl, ifF rfl ?_⟩
          exact ⟨⟨_, _, _, _, _, _, _, _, _, _, rfl⟩, k16.trans (Kp.of_same s17), b16.kp (Kp.of_same (S := []) s17) (by simp) (by simp)⟩
      · rintro σ H6 ⟨⟨y7, y9, y10, y11, y12, y13, y14, y15, y16, y17, rfl⟩, k6, b6⟩
        have fin := q H6 ((k1.trans k5).trans k6) b6
        rw [← hrt] at fin
        exact fin
    refine ⟨hv, rfl, .ref la, rfl, hv, .ref la, ks, cs, log, [], rfl, by rw [off_nil]; exact hl0, (fun _ h => nomatch h), ok, fun p s t as H1 ns nt st pl ep s1 => ?_⟩
    refine ⟨p, _, rfl, sqt_of ep, rfl, .ref s, [_], rfl, _, [], rfl, rfl, ?_⟩
    refine ⟨.ref la, rfl, .ref la, log, rfl, Dp.mono s1 hl0, by omega, ok.nd, fun PD H2 nPD ePD s2 => ?_⟩
    refine ⟨len_ok (by simp), fun SV nSV => ⟨len_ok (by simp), fun T nT => ⟨T, _, rfl, sqt_new, rfl, .ref PD, [_], rfl, _, [], rfl, rfl, ?_⟩⟩⟩
    have s4 : Same H2 (upd (upd H2 SV (.lst [.int 0])) T (.tup [.ref PD, .ref SV])) := (same_new nSV).trans (same_new nT)
    have eS4 : (upd (upd H2 SV (.lst [.int 0])) T (.tup [.ref PD, .ref SV])) SV = some (.lst ((servedL log 0).map V.int)) := (same_new nT) _ _ upd_same
    revert s4 eS4
    generalize upd (upd H2 SV (.lst [.int 0])) T (.tup [.ref PD, .ref SV]) = H4
    intro s4 eS4
    have tSV : t ≠ SV := ne_of_none (s2 _ _ pl.et) nSV
    have PSV : PD ≠ SV := ne_of_none ePD nSV
    have s14 : Same H1 H4 := s2.trans s4
    have s04 : Same H H4 := s1.trans s14
    have nSV2 : H2 SV = none := nSV
    have nSV0 : H SV = none := (s1.trans s2).free nSV
    refine ⟨.ref la, rfl, la, xs, rfl, .inr (Same.sqt s04 hla), (xs.length : Int), rfl, by omega, by omega, ?_⟩
    rw [Int.toNat_natCast]
    refine for_it (walk_range (lo := 0) (n := xs.length)) (fun i σ H5 => (∃ y7, σ = [some (.ref b), some hv, some (.ref la), some (.ref s), some (.ref t), some (.ref PD), some (.ref SV), y7, none, none, none, none, none, none, none, none, none, none]) ∧ (∀ a o, a ≠ SV → H4 a = some o → H5 a = some o) ∧ H5 SV = some (.lst ((servedL log i).map V.int)))
      ⟨⟨none, rfl⟩, fun a o _ e => e, eS4⟩ (fun _ _ _ _ _ => trivial) ?_ ?_
    · rintro i z σ H5' H5 hi ⟨⟨y7, rfl⟩, k5, e5⟩ ⟨rfl, rfl⟩
      obtain ⟨l, hl'⟩ := served_last log i
      have hD := sql_of (K := K) e5
      have hlast : atI ((servedL log i).map V.int) (-1) = some (.int ((cnt log i : Nat) : Int)) := by
        rw [hl', List.map_append]
        exact atI_last _ _
      have et5 := k5 _ _ tSV (s14 _ _ pl.et)
      refine ⟨.ref SV, rfl, .inl ⟨rfl, _, hD⟩, .ref SV, rfl, 1, rfl, SV, _, -1, _, rfl, rfl, hD, hlast, ?_⟩
      have hg5 : DGet H5 t (.int (0 + (i : Int))) (valV (toldK (toldL log log.length)) (.inl (0 + (i : Int)))) := .inl ⟨_, .inl (0 + (i : Int)), .inl et5, rfl, rfl⟩
      refine ⟨.ref t, rfl, t, rfl, .inl ⟨_, .inl et5⟩, .int (0 + (i : Int)), rfl, _, hg5, rfl, .inr ⟨_, rfl, _, _, rfl, rfl, SV, _, _, rfl, rfl, e5, small1000 ?_, ⟨_, rfl⟩, ?_, ?_⟩⟩
      · rw [List.length_map, served_len]
        omega
      · intro a o na e
        rw [upd_ne na]
        exact k5 a o na e
      · rw [upd_same, served_succ, List.map_append, Int.zero_add, told_get (by omega), cnt_succ]
        cases toldAt log i <;> simp [oV]
    · rintro σ H5 ⟨⟨y7, rfl⟩, k5, e5⟩
      rw [xl] at e5
      have et5 := k5 _ _ tSV (s14 _ _ pl.et)
      have eP5 := k5 _ _ PSV (s4 _ _ ePD)
      have s05 : Same H H5 := fun a o e => k5 a o (ne_of_none e nSV0) (s04 _ _ e)
      have s15 : Same H1 H5 := fun a o e => k5 a o (ne_of_none (s2 _ _ e) nSV) (s14 _ _ e)
      -- taken
      refine ⟨t, _, et5, trivial, fun od => ?_⟩
      generalize hG : upd H5 t (.frz od (.dK (toldK (toldL log log.length)))) = G
      have gT : G t = some (.frz od (.dK (toldK (toldL log log.length)))) := by rw [← hG]; exact upd_same
      have sG : ∀ a o, a ≠ t → H5 a = some o → G a = some o := fun a o n e => by rw [← hG, upd_ne n]; exact e
      have Pt : PD ≠ t := by
        intro e
        rw [e, pl.et] at nPD
        cases nPD
      have gP := sG _ _ Pt eP5
      refine ⟨.ref t, rfl, t, od, rfl, .inl ⟨_, gT, fun D nD => ?_⟩⟩
      have nDt : D ≠ t := (ne_of_none gT nD).symm
      have nD5 : H5 D = none := by
        rw [← hG] at nD
        exact (up_none nD).2
      have tl : (toldK (toldL log log.length)).length = (toldL log log.length).length := by unfold toldK; rw [List.length_map]
      refine lc_it walk_keys (fun i H7 => Same G H7 ∧ ∃ ps, H7 D = some (.lst (ps.map V.ref)) ∧ Paired (fun p kv => H7 p = some (.tup [kV kv.1, kv.2])) ps (takenK (takenOf log ((toldL log log.length).take i)))) ⟨same_new nD, [], upd_same, .nil⟩ (fun i H7 _ u => u.1 _ _ gT) ?_ ?_
      · rintro i z H7' H7 hi ⟨s7, ps, e7, hp⟩ ⟨rfl, k, v, hk, rfl⟩
        obtain ⟨⟨j, o⟩, hj, ekv⟩ := map_get hk
        cases ekv
        have hget : DGet H7 t (.int (j : Int)) (some (oV o)) := .inl ⟨_, .inl (j : Int), .inr ⟨od, s7 _ _ gT⟩, rfl, (valV_at (toldK_nd log log.length) hk).symm⟩
        refine ⟨rfl, .ref t, rfl, .int (j : Int), rfl, t, oV o, rfl, hget, rfl, _, rfl, ?_⟩
        have hjm : (j, o) ∈ toldL log log.length := List.mem_of_getElem? hj
        have tk' : (toldL log log.length).take (i + 1) = (toldL log log.length).take i ++ [(j, o)] := by
          rw [List.take_add_one, hj]; rfl
        cases o with
        | none =>
          refine ifF (by simp [oV]) ⟨s7, ps, e7, ?_⟩
          rw [tk', takenOf_snoc]
          rw [show ((j, (none : Option Str)).2.map fun n => ((j, (none : Option Str)).1, putIx log n)).toList = [] from rfl, List.append_nil]
          exact hp
        | some n =>
          obtain ⟨eo, ⟨c', hc'⟩, hlt⟩ := told_mem hjm
          obtain ⟨_, _, hn⟩ := toldAt_call eo.symm
          have hn' : n ∈ putNames log := (putNames_take log j).subset hn
          have hgp : DGet H7 PD (.str n) (some (.int (putIx log n : Int))) := .inl ⟨_, .inr n, .inl (s7 _ _ gP), rfl, (put_ix hn').symm⟩
          refine ifT (by simp [oV]) ?_
          refine ⟨.int (j : Int), rfl, .ref PD, rfl, .ref t, rfl, .int (j : Int), rfl, t, .str n, rfl, hget, PD, _, rfl, hgp, len_ok (by simp), fun p np => ?_⟩
          have s8 : Same H7 (upd H7 p (.tup [.int (j : Int), .int (putIx log n : Int)])) := same_new np
          have hpl := paired_len hp
          have hle : (takenK (takenOf log ((toldL log log.length).take i))).length ≤ 200 := by
            unfold takenK takenOf
            rw [List.length_map]
            have h1 := List.length_filterMap_le (fun p : Nat × Option Str => p.2.map fun n => (p.1, putIx log n)) ((toldL log log.length).take i)
            rw [List.length_take] at h1
            have h2 := toldL_len log log.length
            omega
          refine ⟨_, s8 _ _ e7, small1000 (by rw [List.length_map]; omega), fun a u ea => ?_, ps ++ [p], by rw [upd_same, List.map_append]; rfl, ?_⟩
          · rw [upd_ne (ne_of_none ea nD)]
            exact s8 _ _ (s7 _ _ ea)
          · rw [tk', takenOf_snoc]
            unfold takenK
            rw [List.map_append]
            have pD := (ne_of_none e7 np).symm
            refine paired_snoc (paired_mono hp fun a kv h => ?_) (by rw [upd_ne pD]; exact upd_same)
            have aD : a ≠ D := by
              intro e
              rw [e, e7] at h
              cases h
            rw [upd_ne aD]
            exact s8 _ _ h
      · rintro H7 ⟨s7, ps, e7, hp⟩
        rw [tl, List.take_length, ← taken_def] at hp
        refine ⟨s7 _ _ gT, ?_⟩
        have s8 : ∀ a o, a ≠ t → H7 a = some o → (upd H7 t (.dK (toldK (toldL log log.length)))) a = some o := fun a o n e => by rw [upd_ne n]; exact e
        have et8 : (upd H7 t (.dK (toldK (toldL log log.length)))) t = some (.dK (toldK (toldL log log.length))) := upd_same
        have s58 : Same H5 (upd H7 t (.dK (toldK (toldL log log.length)))) := fun a o e => by
          by_cases hc : a = t
          · subst hc
            rw [et5] at e; cases e
            exact upd_same
          · exact s8 _ _ hc (s7 _ _ (sG _ _ hc e))
        have e8 := s8 _ _ nDt e7
        have hp8 : Paired (fun p kv => (upd H7 t (.dK (toldK (toldL log log.length)))) p = some (.tup [kV kv.1, kv.2])) ps (takenK (takenL log)) := paired_mono hp fun a kv h => by
          refine s8 _ _ (fun e => ?_) h
          rw [e, s7 _ _ gT] at h
          cases h
        revert s58 e8 hp8 et8
        generalize upd H7 t (.dK (toldK (toldL log log.length))) = H8
        intro et8 s58 e8 hp8
        refine ⟨D, ps, _, rfl, sql_of e8, paired_mono hp8 (fun _ _ h => sqt_of h), fun TK nTK => ?_⟩
        rw [show mergeK [] (takenK (takenL log)) = takenK (takenL log) from merge_nd (kvs := []) (by rw [List.nil_append]; exact taken_nd log)]
        have s9 : Same H8 (upd H8 TK (.dK (takenK (takenL log)))) := same_new nTK
        have s19 : Same H1 (upd H8 TK (.dK (takenK (takenL log)))) := (s15.trans s58).trans s9
        have s09 : Same H (upd H8 TK (.dK (takenK (takenL log)))) := (s05.trans s58).trans s9
        have b1 : Bg H1 b c := hb.kp (Kp.of_same (S := []) s1) (by simp) (by simp)
        have b8 : Bg H8 b c := hb.kp (Kp.of_same (S := []) (s05.trans s58)) (by simp) (by simp)
        have TKb := b8.ne nTK
        have sb := hb.ne ns
        have tb := hb.ne nt
        have SVb := hb.ne nSV0
        have oK : Same (off H1 [b]) (off (upd H8 TK (.dK (takenK (takenL log)))) [b]) := Kp.off' (Kp.of_same s19)
        obtain ⟨⟨bx, by', bz, hbb, _⟩, _⟩ := id b1
        refine ⟨s, t, PD, SV, TK, as, _, _, _, _, _, _, _, _, _, _, rfl, ⟨Dp.mono (Kp.off' (Kp.of_same s09)) hh, Dp.mono (Kp.off' (Kp.of_same s09)) hl, off_of (by simpa using sb) (s19 _ _ pl.es), pl.len, fun j a h => ?_, off_of (by simpa using tb) (s19 _ _ pl.et), off_of (by simpa using SVb) (s9 _ _ (s58 _ _ e5)), off_of (by simpa using TKb) upd_same⟩, Kp.of_same s09, hb.kp (Kp.of_same (S := []) s09) (by simp) (by simp), fun _ _ => rfl⟩
        exact (lsd_offB hbb ((pl.st j a h).mono off_le)).mono oK
end
end CB
set_option Elab.async false
set_option linter.all false
set_option maxRecDepth 100000
set_option maxHeartbeats 4000000
namespace CB
open PySem PySem.Spec
open PyProof.Rows L2
open PySem.W (Datum Tup DatumOrd)
open SlX (Slt slH slH_slt slH_twice putS)
/-! ### _law_is_store_led -/
theorem st_slt {K : PySem.W.Frag} {C : Addr} {H : Hp} {S : List Addr} {a : Addr} {ks : List Str} {cs : List (List Str)} {rows : List Row} {things : List Th} {names : List Str} (h : St K C H S a ks cs rows things names) : ∃ dx w, Slt H a C dx w := by
  obtain ⟨dx, R, T, N, hv, rs, ts, kvs, rfl, nd, hsl, _⟩ := h
  exact ⟨_, _, hsl⟩
theorem drop_b {ts : List Th} {n : Str} : decide ((ts.filter fun t => !decide (t.1 = n)).length < ts.length) = decide (n ∈ ts.map (·.1)) := by
  refine decide_eq_decide.mpr ?_
  constructor
  · intro h
    refine Classical.byContradiction fun hn => ?_
    have : (ts.filter fun t => !decide (t.1 = n)) = ts := List.filter_eq_self.mpr fun t ht => by
      have : ¬ t.1 = n := fun e => hn (List.mem_map.mpr ⟨t, ht, e⟩)
      simp [this]
    rw [this] at h
    omega
  · intro h
    obtain ⟨t, ht, e⟩ := List.mem_map.mp h
    exact List.length_filter_lt_length_iff_exists.mpr ⟨t, ht, by simp [e]⟩
theorem nm_put : Nm "put" := by unfold Nm; decide +kernel
theorem nm_call : Nm "call" := by unfold Nm; decide +kernel
theorem nm_drop : Nm "drop" := by unfold Nm; decide +kernel
theorem sm_row {ks : List Str} {cs : List (List Str)} (vh : VH ks cs) {r : Row} (ok : RowOk ks cs r) : Sm 129 2 (Datum.toD r) := by
  cases r with
  | put n k =>
    obtain ⟨h1, h2⟩ := ok.put n k rfl
    refine (sm_tuple (n := 6) (k := 0) (m := 129) (fun x hx => ?_) (by simp)).mono (Nat.le_refl _) (by decide)
    rcases List.mem_cons.mp hx with rfl | hx
    · exact sm_str nm_put
    rcases List.mem_cons.mp hx with rfl | hx
    · exact sm_str h1
    rw [List.mem_singleton] at hx
    rw [hx]; exact sm_str (vh.nm k h2)
  | drop n =>
    have h1 := ok.drop n rfl
    refine (sm_tuple (n := 6) (k := 0) (m := 129) (fun x hx => ?_) (by simp)).mono (Nat.le_refl _) (by decide)
    rcases List.mem_cons.mp hx with rfl | hx
    · exact sm_str nm_drop
    rw [List.mem_singleton] at hx
    rw [hx]; exact sm_str h1
  | call c =>
    have hc := ok.call c rfl
    have hl := vh.len hc
    refine sm_tuple (n := 42) (k := 1) (m := 129) (fun x hx => ?_) (by simp)
    rcases List.mem_cons.mp hx with rfl | hx
    · exact (sm_str nm_call).mono (by decide) (by decide)
    rw [List.mem_singleton] at hx
    rw [hx]
    refine sm_tuple (n := 6) (k := 0) (fun y hy => ?_) (by rw [List.length_map]; omega)
    obtain ⟨z, hz, rfl⟩ := List.mem_map.mp hy
    refine sm_str (vh.nm z ?_)
    have h2 := vh.ord c hc
    rw [← h2] at hz
    exact (List.mem_filter.mp hz).1
theorem sm_log {ks : List Str} {cs : List (List Str)} {log : List Row} (vh : VH ks cs) (ok : LogOk ks cs log) : Sm 30000 3 (Datum.toD (Tup.mk log)) := by
  have ol := ok.len
  refine sm_tuple (n := 129) (k := 2) (fun d hd => ?_) (by rw [List.length_map]; show (129 + 1) * log.length ≤ _; omega)
  obtain ⟨r, hr, rfl⟩ := List.mem_map.mp hd
  exact sm_row vh (ok.rows r hr)
section
variable {P : Program} {w : World} {K : PySem.W.Frag} {mg : Str → Option Value} {base : Heap} {C p0 p1 p2 p3 : Addr}
def spLed (K : PySem.W.Frag) : Sp := fun vs H Q _ => ∃ (hv lv : V) (ks : List Str) (cs : List (List Str)) (log : List Row), vs = [hv, lv] ∧ Hd K H hv (hs ks cs) ∧ VH ks cs ∧ Hd K H lv (Tup.mk log) ∧ LogOk ks cs log ∧
  ∀ H', Same H H' → Q (.bl true) H'
abbrev s_law_is_store_led : Stmt := topS 54
abbrev p_law_is_store_led : List Str := ["_law_house_here", "_law_log_here"]
theorem sc_law_is_store_led : FnScope ["_law_house_here", "_law_log_here", "_law_store", "_law_told", "_law_states", "_law_at", "_law_row", "_law_name", "_law_kind"] ["_law_house_here", "_law_log_here"] (defScope s_law_is_store_led) := ⟨rfl, rfl, rfl, by decide +kernel, rfl, by decide +kernel, by decide +kernel⟩
theorem c_led (D : Def K mg "_law_is_store_led" s_law_is_store_led p_law_is_store_led) (B : Blt mg) (SC : StC K mg C p0 p1 p2 p3) (M_init : MCal P w K mg base C "__init__" p_St_init 8 (spInit K C))
    (M_put : MCal P w K mg base C "put" p_St_put 9 (spPut K C)) (M_drop : MCal P w K mg base C "drop" p_St_drop 9 (spDrop K C)) (M_take : MCal P w K mg base C "take" p_St_take 9 (spTakeS K C))
    (M_there : MCal P w K mg base C "there" p_St_there 9 (spThere K C)) (M_rows : MCal P w K mg base C "rows" p_St_rows 9 (spRows K C)) (M_amounts : MCal P w K mg base C "amounts" p_St_amounts 9 (spAmounts K C))
    (C_law_played : Cal P w K mg base "_law_played" p_law_played 9 (spPlayed K)) (C_told_by : Cal P w K mg base "told_by" p_told_by 9 (spTold K))
    (C_law_alike : CalG P w K mg base "_law_alike" p_law_alike 9 (spAlike K)) (C_there_at : Cal P w K mg base "there_at" p_there_at 9 (spThereAt K)) (C_amounts_at : Cal P w K mg base "amounts_at" p_amounts_at 9 (spAmountsAt K)) :
    CalG P w K mg base "_law_is_store_led" p_law_is_store_led 10 (spLed K) := by
  refine D.calG sc_law_is_store_led (fun vs H Q E h => ?_) (fun f cdv A outer s H vs Q E hg h => ?_)
  · obtain ⟨hv, lv, ks, cs, log, rfl, _⟩ := h; rfl
  · obtain ⟨hv, lv, ks, cs, log, rfl, hh, vh, hl, ok, q⟩ := h
    have hr := hg.rm
    have ol := ok.len
    obtain ⟨la, xs, rfl, hla, hxs⟩ := hd_tup_inv hl
    have xl : xs.length = log.length := all_len hxs
    refine ⟨_, (pss_cons (ps_par3 (i := 2) (j := 3) (l := 4) rfl sc_law_is_store_led.nd rfl rfl rfl (by decide) (by decide) (by decide) rfl rfl rfl (pa_cons (pe_mk M_init hr SC.makes SC.kp SC.nm (pa_cons (pv 0) pa_nil)) (pa_cons (pe_cal C_told_by hr (pa_cons (pv 0) (pa_cons (pv 1) pa_nil))) (pa_cons (pe_ix (k_ixT K) (pe_cal C_law_played hr (pa_cons (pv 0) (pa_cons (pv 1) pa_nil))) pe_int (fun _ _ => rfl)) pa_nil))) rfl)
  (pss_cons (ps_for PassesOwn.never rfl (k_enumT K B.enumerate (pa_cons (pv 1) pa_nil)) (k_tup K (n := 2) rfl (pgs_cons (pg_name (i := 5) sc_law_is_store_led.nd rfl (by first | exact .inl rfl | exact .inr rfl)) (pgs_cons (pg_name (i := 6) sc_law_is_store_led.nd rfl (by first | exact .inl rfl | exact .inr rfl)) pgs_nil)))
  (pss_one (ps_if (pt_cmpR op_eq (pe_ix (k_ixT K) (pv 6) pe_int (fun _ _ => rfl)) pe_str (nomark _))
  (pss_one (ps_expr (pe_mcal M_put hr SC.c (pv 2) (pa_cons (pe_ix (k_ixT K) (pv 6) pe_int (fun _ _ => rfl)) (pa_cons (pe_ix (k_ixT K) (pv 6) pe_int (fun _ _ => rfl)) pa_nil)))))
  (pss_one (ps_if (pt_cmpR op_eq (pe_ix (k_ixT K) (pv 6) pe_int (fun _ _ => rfl)) pe_str (nomark _))
  (pss_one (ps_if (pt_not (pt_val (pe_calG C_law_alike hg (pa_cons (pe_mcal M_drop hr SC.c (pv 2) (pa_cons (pe_ix (k_ixT K) (pv 6) pe_int (fun _ _ => rfl)) pa_nil)) (pa_cons (pe_cmpR (k_inX K Str hr.units) (pe_ix (k_ixT K) (pv 6) pe_int (fun _ _ => rfl)) (pe_lc rfl sc_law_is_store_led.nd (k_piL K (pe_ix (k_ixL K) (pv 4) (pv 5) (fun _ _ => rfl))) (blkOk_by (own := [("_law_name", 7), ("_law_kind", 8)]) (by kernel_rfl)) (fun _ _ _ _ _ => (k_tup K (n := 2) rfl (pgs_cons (pg_name (i := 7) sc_law_is_store_led.nd rfl (by first | exact .inl rfl | exact .inr rfl)) (pgs_cons (pg_name (i := 8) sc_law_is_store_led.nd rfl (by first | exact .inl rfl | exact .inr rfl)) pgs_nil)))) (fun _ _ _ _ _ => pts_nil) (fun _ _ _ _ _ => (pv 7))) (by with_unfolding_all rfl)) pa_nil)))))
  (pss_one (ps_ret pe_bl))
  pss_nil))
  (pss_one (ps_if (pt_cmpR op_ne (pe_mcal M_take hr SC.c (pv 2) (pa_cons (pe_ix (k_ixT K) (pv 6) pe_int (fun _ _ => rfl)) pa_nil)) (pe_dget (hu_of hr) (pv 3) (pv 5) (fun _ _ => rfl)) (nomark _))
  (pss_one (ps_ret pe_bl))
  pss_nil)))))))
  (pss_cons (ps_if (PW.pt (pw_and (pt_cmpR op_eq (pe_op op_mod (pe_callB (k_len K) (by rfl) B.len (by decide +kernel) (pa_cons (pv 1) pa_nil)) pe_int) pe_int (nomark _)) (pw_and1 (pt_not (pt_val (pe_calG C_law_alike hg (pa_cons (pe_mcal0 M_amounts hr SC.c (pv 2)) (pa_cons (pe_cal C_amounts_at hr (pa_cons (pv 0) (pa_cons (pv 1) (pa_cons (pe_callB (k_len K) (by rfl) B.len (by decide +kernel) (pa_cons (pv 1) pa_nil)) pa_nil)))) pa_nil))))))))
  (pss_one (ps_ret pe_bl))
  pss_nil)
  (pss_by (fun D σ H1 => ∃ y5 y6 y7 y8 TD s x A S2, σ = [some hv, some (.ref la), some (.ref x), some (.ref TD), some (.ref s), y5, y6, y7, y8] ∧ Same H A ∧ Same A H1 ∧ (∀ y ∈ S2, A y = none) ∧ St K C H1 S2 x ks cs log (runT log) (putNames log) ∧ (∀ v H2, D.rt v H2 = Q v H2))
  (pss_one (ps_ret (pe_calG C_law_alike hg (pa_cons (pe_lst (pa_cons (pe_mcal0 M_there hr SC.c (pv 2)) (pa_cons (pe_mcal0 M_rows hr SC.c (pv 2)) pa_nil))) (pa_cons (pe_lst (pa_cons (pe_cal C_there_at hr (pa_cons (pv 0) (pa_cons (pv 1) (pa_cons (pe_callB (k_len K) (by rfl) B.len (by decide +kernel) (pa_cons (pv 1) pa_nil)) pa_nil)))) (pa_cons (pv 1) pa_nil))) pa_nil))))) ?cut334)))), ?_⟩
    case cut334 =>
      rintro Dn σ H4 ⟨y5, y6, y7, y8, TD, s, x, A, S2, rfl, sHA, sA, fr2, st2, hrt⟩
      obtain ⟨dx, w, hsl⟩ := st_slt st2
      refine ⟨.ref x, rfl, x, dx, w, rfl, hsl, x, S2, ks, cs, log, runT log, putNames log, rfl, st2, fun p1 acc H5 n1 e1 hacc s5 => ?_⟩
      have st5 := st2.same s5
      obtain ⟨dx', w', hsl'⟩ := st_slt st5
      refine ⟨.ref x, rfl, x, dx', w', rfl, hsl', x, S2, ks, cs, log, runT log, putNames log, rfl, st5, fun v H6 s6 hv6 => ?_⟩
      refine ⟨len_ok (by simp), fun F nF => ?_⟩
      have s7 : Same H6 (upd H6 F (.lst [.ref p1, v])) := same_new nF
      have eF7 : (upd H6 F (.lst [.ref p1, v])) F = some (.lst [.ref p1, v]) := upd_same
      revert s7 eF7
      generalize upd H6 F (.lst [.ref p1, v]) = H7
      intro s7 eF7
      have s07 : Same H H7 := (((sHA.trans sA).trans s5).trans s6).trans s7
      refine ⟨hv, rfl, .ref la, rfl, .ref la, rfl, la, xs, rfl, .inr (Same.sqt s07 hla), hv, .ref la, ks, cs, log, xs.length, rfl, Dp.mono s07 hh, vh, Dp.mono s07 hl, ok, fun p2 H8 n2 ls2 s8 => ?_⟩
      rw [xl, List.take_length] at ls2
      refine ⟨.ref la, rfl, len_ok (by simp), fun R nR => ?_⟩
      have s9 : Same H8 (upd H8 R (.lst [.ref p2, .ref la])) := same_new nR
      have eR9 : (upd H8 R (.lst [.ref p2, .ref la])) R = some (.lst [.ref p2, .ref la]) := upd_same
      revert s9 eR9
      generalize upd H8 R (.lst [.ref p2, .ref la]) = H9
      intro s9 eR9
      have s79 := s8.trans s9
      have s59 := (s6.trans s7).trans s79
      have hp1 : Hd K H9 (.ref p1) (runT log) := hd_lst (sql_of (s59 _ _ e1)) (DpAll.mono (s5.trans s59) (DpAll.mono off_le hacc))
      have hv9 : Hd K H9 v (Tup.mk log) := Dp.mono ((s7.trans s79)) (Dp.mono off_le hv6)
      have hp2 : Hd K H9 (.ref p2) (runT log) := Dp.mono s9 (Dp.mono off_le (ls2.dp (by simp)))
      have hlv9 : Hd K H9 (.ref la) (Tup.mk log) := Dp.mono (s07.trans s79) hl
      have smT := sm_things vh ok log.length
      rw [List.take_length] at smT
      refine ⟨.ref F, .ref R, .list [Datum.toD (runT log), Datum.toD (Tup.mk log)], rfl, dq_list2 (s79 _ _ eF7) (Dp.dq hp1) (Dp.dq hv9), dq_list2 eR9 (Dp.dq hp2) (Dp.dq hlv9), (sm_list2 (m := 1000000) (smT.mono (by decide) (by decide)) (sm_log vh ok) (by decide)).mono (Nat.le_refl _) (by decide), ?_⟩
      have fin := q H9 (s07.trans s79)
      rw [← hrt] at fin
      exact fin
    refine ⟨hv, rfl, fun x dx nx ndx ne => ⟨x, dx, hv, ks, cs, H, rfl, rfl, nx, ndx, ne, hh, vh, fun H1 S st1 s1 fr1 => ⟨rfl, ?_⟩⟩⟩
    refine ⟨hv, rfl, .ref la, rfl, hv, .ref la, ks, cs, log, rfl, Dp.mono s1 hh, vh, Dp.mono s1 hl, ok, fun TD H2 nTD eTD s2 => ?_⟩
    have sH2 := s1.trans s2
    refine ⟨hv, rfl, .ref la, rfl, hv, .ref la, ks, cs, log, S, rfl, Dp.mono (off_free sH2 fr1) hl, (st1.same s2).some, ok, fun p s t as H3 ns nt st pl ep s3 => ?_⟩
    refine ⟨p, _, 0, .ref s, rfl, rfl, sqt_of ep, atI_nat (j := 0) rfl, ?_⟩
    have st3 := (st1.same s2).same s3
    have sH3 := sH2.trans s3
    have TDS : TD ∉ S := fun z => by
      obtain ⟨o, e⟩ := st1.some TD z
      rw [e] at nTD; cases nTD
    have sS : s ∉ S := fun z => by
      obtain ⟨o, e⟩ := (st1.same s2).some s z
      rw [e] at ns; cases ns
    have hA0 : Same H (off H3 S) := off_free sH3 fr1
    have eTA : off H3 S TD = some (.dK (toldK (toldL log log.length))) := off_of TDS (s3 _ _ eTD)
    have esA : off H3 S s = some (.lst (as.map V.ref)) := off_of sS pl.es
    have asA : ∀ (j : Nat) a, as[j]? = some a → LsD K (off H3 S) a (runT (log.take j)) := fun j a h => (pl.st j a h).mono (off_mono fun c hc => List.mem_cons_of_mem _ (List.mem_cons_of_mem _ hc))
    have frA : ∀ y ∈ S, off H3 S y = none := fun y hy => off_in hy
    have leA : Same (off H3 S) H3 := off_le
    have asl := pl.len
    revert hA0 eTA esA asA frA leA
    generalize off H3 S = A
    intro hA0 eTA esA asA frA leA
    have hlaA := Same.sqt hA0 hla
    have hxsA : HdAll K A xs log := DpAll.mono hA0 hxs
    refine ⟨_, _, _, rfl, .ref la, rfl, la, xs, rfl, Same.sqt leA hlaA, ?_⟩
    refine for_it (walk_enumT (xs := xs)) (fun i σ H4 => (∃ y5 y6 y7 y8, σ = [some hv, some (.ref la), some (.ref x), some (.ref TD), some (.ref s), y5, y6, y7, y8]) ∧
      ∃ S2, St K C H4 S2 x ks cs (log.take i) (runT (log.take i)) (putNames (log.take i)) ∧ Same A H4 ∧ (∀ y ∈ S2, A y = none))
      ⟨⟨_, _, _, _, rfl⟩, S, st3, leA, frA⟩ ?_ ?_ ?_
    · rintro i σ H4 _ ⟨_, S2, _, s4, _⟩; exact Same.sqt s4 hlaA
    · rintro i z σ H4 H5 hi ⟨⟨y5, y6, y7, y8, rfl⟩, S2, st2, s4, fr2⟩ ⟨T, u1, u2, rfl, nT, rfl, e1, e2⟩
      cases (Option.some.inj e1)
      obtain ⟨r, hr', hd⟩ := all_get hxsA e2
      have s5 : Same H4 (upd H4 T (.tup [.int (i : Nat), u2])) := same_new nT
      refine ⟨T, _, rfl, sqt_new, rfl, .int (i : Nat), [u2], rfl, u2, [], rfl, rfl, ?_⟩
      generalize upd H4 T (.tup [.int (i : Nat), u2]) = H5 at s5
      have st5 := st2.same s5
      have sA5 := s4.trans s5
      obtain ⟨dx', w, hsl⟩ := st_slt st5
      obtain ⟨ra, ys, rfl, hra, hx⟩ := row_inv hd
      have hS := Same.sqt sA5 hra
      have h1 : (log.take i).length ≤ 200 := by rw [List.length_take]; omega
      have h2 := run_len (log.take i)
      have h3 := names_len (log.take i)
      have okr := ok.row hr'
      -- the step's end
      have step_end : ∀ H6 S6, St K C H6 S6 x ks cs (log.take i ++ [r]) (step (runT (log.take i)) r).1 (putNames (log.take i) ++ r.name?.toList) → Kp S2 H5 H6 → Fr S2 S6 H5 →
          St K C H6 S6 x ks cs (log.take (i + 1)) (runT (log.take (i + 1))) (putNames (log.take (i + 1))) ∧ Same A H6 ∧ (∀ y ∈ S6, A y = none) := by
        intro H6 S6 st6 kp f
        obtain ⟨n1, n2⟩ := st_next sA5 fr2 kp f
        refine ⟨?_, n1, n2⟩
        rw [runT_take hr', names_take hr', List.take_add_one, hr']
        exact st6
      cases r with
      | put n k =>
        cases (show ys = [.str "put", .str n, .str k] from hx)
        refine ⟨.ref ra, rfl, ra, _, 0, .str "put", rfl, rfl, hS, atI_nat (j := 0) rfl, rfl, _, rfl, ifT (decide_eq_true rfl) ?_⟩
        refine ⟨.ref x, rfl, x, dx', w, rfl, hsl, .ref ra, rfl, ra, _, 1, .str n, rfl, rfl, hS, atI_nat (j := 1) rfl, .ref ra, rfl, ra, _, 2, .str k, rfl, rfl, hS, atI_nat (j := 2) rfl, ?_⟩
        have ho := okr.put n k rfl
        refine ⟨x, S2, ks, cs, _, _, _, n, k, rfl, st5, ho.1, ho.2, ok.fresh hr', by omega, by omega, by omega, fun H6 st6 kp => ?_⟩
        obtain ⟨a1, a2, a3⟩ := step_end H6 S2 st6 kp (Fr.refl _ _)
        exact ⟨⟨_, _, _, _, rfl⟩, S2, a1, a2, a3⟩
      | drop n =>
        cases (show ys = [.str "drop", .str n] from hx)
        refine ⟨.ref ra, rfl, ra, _, 0, .str "drop", rfl, rfl, hS, atI_nat (j := 0) rfl, rfl, _, rfl, ifF s_pd ?_⟩
        refine ⟨.ref ra, rfl, ra, _, 0, .str "drop", rfl, rfl, hS, atI_nat (j := 0) rfl, rfl, _, rfl, ifT (decide_eq_true rfl) ?_⟩
        refine ⟨.ref x, rfl, x, dx', w, rfl, hsl, .ref ra, rfl, ra, _, 1, .str n, rfl, rfl, hS, atI_nat (j := 1) rfl, ?_⟩
        refine ⟨x, S2, ks, cs, _, _, _, n, rfl, st5, okr.drop n rfl, by omega, by omega, fun H6 S6 st6 kp fr => ?_⟩
        obtain ⟨a1, a2, a3⟩ := step_end H6 S6 (by rw [show (putNames (log.take i) ++ (Row.drop n).name?.toList) = putNames (log.take i) from List.append_nil _]; exact st6) kp fr
        obtain ⟨a, ha'⟩ : ∃ a, as[i]? = some a := ⟨as[i]'(by omega), List.getElem?_eq_getElem (by omega)⟩
        obtain ⟨acc, ea, hacc⟩ := asA i a ha'
        have al := all_len hacc
        have hatS : atI (as.map V.ref) (i : Int) = some (.ref a) := atI_nat (by rw [List.getElem?_map, ha']; rfl)
        refine ⟨.ref ra, rfl, ra, _, 1, .str n, rfl, rfl, Same.sqt a2 hra, atI_nat (j := 1) rfl, .ref s, rfl, .int (i : Int), rfl, s, _, _, .ref a, rfl, rfl, sql_of (a2 _ _ esA), hatS, a, rfl, ⟨_, sql_of (a2 _ _ ea)⟩, fun D nD => ?_⟩
        refine lc_it (walk_list (xs := acc)) (fun j H7 => Same H6 H7 ∧ H7 D = some (.lst (((runT (log.take i)).take j).map (·.1) |>.map V.str))) ⟨same_new nD, upd_same⟩ (fun j H7 _ u => sql_of (u.1 _ _ (a2 _ _ ea))) ?_ ?_
        · rintro j z H7' H7 hj ⟨s7, e7⟩ ⟨rfl, hz⟩
          obtain ⟨th, hth, hd7⟩ := all_get hacc hz
          obtain ⟨tb, v1, v2, rfl, htb, g1, g2⟩ := hd_pair_inv hd7
          cases hd_str_inv g1
          cases hd_str_inv g2
          refine ⟨tb, _, rfl, Same.sqt (a2.trans s7) htb, rfl, .str th.1, [_], rfl, _, [], rfl, rfl, rfl, .str th.1, rfl, _, e7, small1000 ?_, fun c o ec => ?_, ?_⟩
          · rw [List.length_map, List.length_map, List.length_take]; omega
          · rw [upd_ne (ne_of_none ec nD)]; exact s7 _ _ ec
          · rw [upd_same, List.take_add_one, hth]
            simp
        · rintro H7 ⟨s7, e7⟩
          rw [List.take_of_length_le (by omega)] at e7
          refine ⟨n, (runT (log.take i)).map (·.1), hd_str n, .inl (hd_lst (sql_of e7) (all_strs _)), ?_⟩
          refine ⟨_, _, .bool (decide (n ∈ (runT (log.take i)).map (·.1))), rfl, by rw [drop_b]; exact .bl _, .bl _, (sm_bool _).mono (by decide) (by decide), true, rfl, ifF rfl ?_⟩
          exact ⟨⟨_, _, _, _, rfl⟩, S6, a1.same s7, a2.trans s7, a3⟩
      | call c =>
        obtain ⟨u, e, hu⟩ := (show ∃ u, ys = [.str "call", u] ∧ Hd K A u (Tup.mk c) from hx)
        cases e
        refine ⟨.ref ra, rfl, ra, _, 0, .str "call", rfl, rfl, hS, atI_nat (j := 0) rfl, rfl, _, rfl, ifF s_cp ?_⟩
        refine ⟨.ref ra, rfl, ra, _, 0, .str "call", rfl, rfl, hS, atI_nat (j := 0) rfl, rfl, _, rfl, ifF s_cd ?_⟩
        refine ⟨.ref x, rfl, x, dx', w, rfl, hsl, .ref ra, rfl, ra, _, 1, u, rfl, rfl, hS, atI_nat (j := 1) rfl, ?_⟩
        refine ⟨x, S2, ks, cs, _, _, _, u, c, rfl, st5, vh, okr.call c rfl, Dp.mono (off_free sA5 fr2) hu, (ok.take i).things, by omega, fun H6 st6 kp => ?_⟩
        obtain ⟨a1, a2, a3⟩ := step_end H6 S2 (by rw [show (putNames (log.take i) ++ (Row.call c).name?.toList) = putNames (log.take i) from List.append_nil _]; exact st6) kp (Fr.refl _ _)
        have htold : (step (runT (log.take i)) (.call c)).2 = toldAt log i := by unfold toldAt; rw [hr']
        obtain ⟨m, hm⟩ := List.mem_iff_getElem?.mp (mem_told hr' (show i < log.length by omega))
        have hk : (toldK (toldL log log.length))[m]? = some (.inl (i : Int), oV (toldAt log i)) := by
          unfold toldK
          rw [List.getElem?_map, hm]; rfl
        have hget : DGet H6 TD (.int (i : Int)) (some (oV (toldAt log i))) := .inl ⟨_, .inl (i : Int), .inl (a2 _ _ eTA), rfl, (valV_at (toldK_nd log log.length) hk).symm⟩
        rw [htold]
        refine ⟨.ref TD, rfl, .int (i : Int), rfl, TD, _, rfl, hget, ?_, _, rfl, ifF (by simp) ⟨⟨_, _, _, _, rfl⟩, S2, a1, a2, a3⟩⟩
        cases toldAt log i <;> rfl
    · rintro σ H4 ⟨⟨y5, y6, y7, y8, rfl⟩, S2, st2, s4, fr2⟩
      rw [xl, List.take_length] at st2
      have s04 := hA0.trans s4
      have hla4 := Same.sqt s04 hla
      refine ⟨.ref la, rfl, la, xs, rfl, .inr hla4, _, _, rfl, rfl, (show (0 : Int) < 2 by decide), rfl, _, rfl, ite2 (fun _ => ?_) (fun _ => ?_)⟩
      · obtain ⟨dx', w, hsl⟩ := st_slt st2
        refine ⟨.ref x, rfl, x, dx', w, rfl, hsl, x, S2, ks, cs, log, runT log, putNames log, rfl, st2, vh, run_kinds log ok.rows, fun p1 sk H5 n1 hs1 e1 s5 => ?_⟩
        have s05 := s04.trans s5
        refine ⟨hv, rfl, .ref la, rfl, .ref la, rfl, la, xs, rfl, .inr (Same.sqt s05 hla), hv, .ref la, ks, cs, log, xs.length, rfl, Dp.mono s05 hh, vh, Dp.mono s05 hl, ok, fun p2 sk2 H6 n2 hs2 e2 s6 => ?_⟩
        have esk : sk2 = sk := srt_uniq (hs2.1.trans hs1.1.symm) hs2.2 hs1.2
        subst esk
        rw [xl, List.take_length] at e2
        have skin : ∀ k ∈ sk2, k ∈ ks := fun k hk => hs1.1.mem_iff.mp hk
        have sk6 : sk2.length ≤ 6 := by rw [hs1.1.length_eq]; exact vh.k6
        have smA := sm_am vh ok log.length skin sk6
        rw [List.take_length] at smA
        refine ⟨.ref p1, .ref p2, _, rfl, dq_am (s6 _ _ e1), dq_am e2, smA.mono (by decide) (by decide), true, rfl, ifF rfl ?_⟩
        exact ⟨_, _, _, _, TD, s, x, A, S2, rfl, hA0, (s4.trans s5).trans s6, fr2, (st2.same s5).same s6, fun _ _ => rfl⟩
      · refine ifF rfl ?_
        exact ⟨_, _, _, _, TD, s, x, A, S2, rfl, hA0, s4, fr2, st2, fun _ _ => rfl⟩
end
end CB
set_option Elab.async false
set_option linter.all false
set_option maxRecDepth 100000
set_option maxHeartbeats 4000000
namespace CB
open PySem PySem.Spec
open PyProof.Rows L2
open PySem.W (Datum Tup DatumOrd)
/-! ### law -/
theorem sm_house {ks : List Str} {cs : List (List Str)} (vh : VH ks cs) : Sm 690 3 (Datum.toD (hs ks cs)) := by
  refine sm_tuple (n := 344) (k := 2) (fun x hx => ?_) (by simp)
  rcases List.mem_cons.mp hx with rfl | hx
  · refine (sm_tuple (n := 6) (k := 0) (m := 344) (fun y hy => ?_) (by rw [List.length_map]; have := vh.k6; show (6 + 1) * ks.length ≤ _; omega)).mono (Nat.le_refl _) (by decide)
    obtain ⟨z, hz, rfl⟩ := List.mem_map.mp hy
    exact sm_str (vh.nm z hz)
  · rw [List.mem_singleton] at hx
    rw [hx]
    refine sm_tuple (n := 42) (k := 1) (fun y hy => ?_) (by rw [List.length_map]; have := vh.c8; show (42 + 1) * (cs.map Tup.mk).length ≤ _; rw [List.length_map]; omega)
    obtain ⟨z, hz, rfl⟩ := List.mem_map.mp hy
    obtain ⟨d, hd, rfl⟩ := List.mem_map.mp hz
    have hl := vh.len hd
    refine sm_tuple (n := 6) (k := 0) (fun u hu => ?_) (by rw [List.length_map]; show (6 + 1) * d.length ≤ _; omega)
    obtain ⟨s, hs', rfl⟩ := List.mem_map.mp hu
    refine sm_str (vh.nm s ?_)
    have h2 := vh.ord d hd
    have hs2 : s ∈ d := hs'
    rw [← h2] at hs2
    exact (List.mem_filter.mp hs2).1
section
variable {P : Program} {w : World} {K : PySem.W.Frag} {mg : Str → Option Value} {base : Heap} {C p0 p1 p2 p3 : Addr}
def spLaw (K : PySem.W.Frag) : Sp := fun vs H Q _ => ∃ (a : Addr) (ns : List Int), vs = [.ref a] ∧ SqL K H a (ns.map V.int) ∧ ∀ H', Q (.bl true) H'
abbrev s_law : Stmt := topS 55
abbrev p_law : List Str := ["_law_script"]
theorem sc_law : FnScope ["_law_script", "_law_bag_here", "_law_turn", "_law_house_here", "_law_most", "_law_log_here", "_law_plain", "_law_shown", "_law_some"] ["_law_script"] (defScope s_law) := ⟨rfl, rfl, rfl, by decide +kernel, rfl, by decide +kernel, by decide +kernel⟩
theorem c_law {f0 : Addr} {fd0 : FuncData} (D : Fun K "law" "law" s_law f0 fd0) (B : Blt mg) (C_law_bag : Cal P w K mg base "_law_bag" p_law_bag 10 (spBag K)) (C_law_house : Cal P w K mg base "_law_house" p_law_house 10 (spLHouse K)) (C_law_one : Cal P w K mg base "_law_one" p_law_one 10 (spOne K))
    (C_law_take : Cal P w K mg base "_law_take" p_law_take 10 spTake) (C_law_log : Cal P w K mg base "_law_log" p_law_log 10 (spLog K)) (C_law_plain_log : Cal P w K mg base "_law_plain_log" p_law_plain_log 10 (spPlain K))
    (C_law_is_played_right : CalG P w K mg base "_law_is_played_right" p_law_is_played_right 10 (spRight K)) (C_law_is_store_led : CalG P w K mg base "_law_is_store_led" p_law_is_store_led 10 (spLed K))
    (C_law_is_giving : Cal P w K mg base "_law_is_giving" p_law_is_giving 10 (spGiving K)) (C_taken_by : Cal P w K mg base "taken_by" p_taken_by 10 (spTaken K)) :
    FnG P w K mg base 11 f0 fd0 p_law (spLaw K) := by
  refine Fun.okG D sc_law (fun vs H Q E h => ?_) (fun cdv A outer s H vs Q E hg h => ?_)
  · obtain ⟨a, ns, rfl, _⟩ := h; rfl
  · obtain ⟨a, ns, rfl, ha, q⟩ := h
    have hr := hg.rm
    refine ⟨_, (pss_cons (ps_set (i := 1) sc_law.nd rfl (.inl rfl) (pe_cal C_law_bag hr (pa_cons (pv 0) pa_nil)))
  (pss_cons (ps_for PassesOwn.never rfl (pi_range1 (by rfl) B.range (pa_cons pe_int pa_nil)) (pg_name (i := 2) sc_law.nd rfl (by first | exact .inl rfl | exact .inr rfl))
  (pss_cons (ps_set (i := 3) sc_law.nd rfl (.inl rfl) (pe_cal C_law_house hr (pa_cons (pv 1) (pa_cons (pe_cal C_law_one hr (pa_cons (pv 1) (pa_cons (pe_lst (pa_cons pe_int (pa_cons pe_int (pa_cons pe_int pa_nil)))) pa_nil))) (pa_cons (pe_cal C_law_one hr (pa_cons (pv 1) (pa_cons (pe_lst (pa_cons pe_int (pa_cons pe_int (pa_cons pe_int pa_nil)))) pa_nil))) pa_nil)))))
  (pss_cons (ps_set (i := 4) sc_law.nd rfl (.inl rfl) (pe_ifExp (pt_cmpR op_gt (pe_cal C_law_take hr (pa_cons (pv 1) (pa_cons pe_int pa_nil))) pe_int (nomark _)) (pe_cal C_law_one hr (pa_cons (pv 1) (pa_cons (pe_lst (pa_cons pe_int (pa_cons pe_int (pa_cons pe_int (pa_cons pe_int pa_nil))))) pa_nil))) pe_int))
  (pss_by (fun D σ H1 => ∃ y2 y5 y6 y7 y8 hv ks cs b c, ∃ most : Nat, σ = [some (.ref a), some (.ref b), y2, some hv, some (.int (most : Int)), y5, y6, y7, y8] ∧ most ≤ 200 ∧ Hd K (off H1 [b]) hv (hs ks cs) ∧ VH ks cs ∧ Bg H1 b c ∧ (∀ y5 y6 y7 y8 H2, Bg H2 b c → D.nx [some (.ref a), some (.ref b), y2, some hv, some (.int (most : Int)), y5, y6, y7, y8] H2))
  (pss_cons (ps_par (i := 5) (j := 6) rfl sc_law.nd rfl rfl (by decide) rfl rfl (pa_cons (pe_cal C_law_log hr (pa_cons (pv 1) (pa_cons (pv 3) (pa_cons (pv 4) pa_nil)))) (pa_cons (pe_cal C_law_plain_log hr (pa_cons (pv 1) (pa_cons (pv 3) (pa_cons pe_int pa_nil)))) pa_nil)) rfl)
  (pss_cons (ps_set (i := 7) sc_law.nd rfl (.inl rfl) (pe_callB (k_reprQ K hr.units hg.gd) (by rfl) B.repr (by decide +kernel) (pa_cons (pe_tup (pa_cons (pv 3) (pa_cons (pv 5) (pa_cons (pv 6) pa_nil)))) pa_nil)))
  (pss_cons (ps_for PassesOwn.never rfl (k_piT K (pe_tup (pa_cons (pv 5) (pa_cons (pv 6) (pa_cons (pe_tup pa_nil) (pa_cons (pv 5) pa_nil)))))) (pg_name (i := 8) sc_law.nd rfl (by first | exact .inl rfl | exact .inr rfl))
  (pss_one (ps_if (PW.pt (pw_or (pt_not (pt_val (pe_calG C_law_is_played_right hg (pa_cons (pv 1) (pa_cons (pv 3) (pa_cons (pv 8) pa_nil)))))) (pw_or1 (pt_not (pt_val (pe_calG C_law_is_store_led hg (pa_cons (pv 3) (pa_cons (pv 8) pa_nil))))))))
  (pss_one (ps_ret pe_bl))
  pss_nil)))
  (pss_one (ps_if (PW.pt (pw_or (pt_not (pt_val (pe_cal C_law_is_giving hr (pa_cons (pv 6) (pa_cons (pe_cal C_taken_by hr (pa_cons (pv 3) (pa_cons (pv 6) pa_nil))) pa_nil))))) (pw_or1 (pt_cmpR op_ne (pe_callB (k_reprQ K hr.units hg.gd) (by rfl) B.repr (by decide +kernel) (pa_cons (pe_tup (pa_cons (pv 3) (pa_cons (pv 5) (pa_cons (pv 6) pa_nil)))) pa_nil)) (pv 7) (nomark _)))))
  (pss_one (ps_ret pe_bl))
  pss_nil))))) ?cut340))))
  (pss_one (ps_ret pe_bl)))), ?_⟩
    case cut340 =>
      rintro Dn σ H1 ⟨y2, y5, y6, y7, y8, hv, ks, cs, b, c, most, rfl, hm, hh, vh, b1, fin⟩
      refine ⟨.ref b, rfl, hv, rfl, .int (most : Int), rfl, b, c, hv, ks, cs, most, rfl, b1, hh, vh, hm, fun lv log H2 hl ok k2 b2 => ?_⟩
      refine ⟨.ref b, rfl, hv, rfl, b, c, hv, ks, cs, 25, rfl, b2, Dp.mono k2.off' hh, vh, by decide, fun pv plain H3 hp okp hplain k3 b3 => ?_⟩
      have hh3 := Dp.mono k3.off' (Dp.mono k2.off' hh)
      have hl3 := Dp.mono k3.off' hl
      have smd : Sm 1000000 50 (.tuple [Datum.toD (hs ks cs), Datum.toD (Tup.mk log), Datum.toD (Tup.mk plain)]) := by
        refine (sm_tuple (n := 30000) (k := 3) (m := 1000000) (fun x hx => ?_) (by simp)).mono (Nat.le_refl _) (by decide)
        rcases List.mem_cons.mp hx with rfl | hx
        · exact (sm_house vh).mono (by decide) (by decide)
        rcases List.mem_cons.mp hx with rfl | hx
        · exact sm_log vh ok
        rw [List.mem_singleton] at hx
        rw [hx]; exact sm_log vh okp
      refine ⟨_, _, rfl, hv, rfl, lv, rfl, pv, rfl, len_ok (by simp), fun T nT => ?_⟩
      have s4 : Same H3 (upd H3 T (.tup [hv, lv, pv])) := same_new nT
      have dqT : Dq K (upd H3 T (.tup [hv, lv, pv])) (.ref T) (.tuple [Datum.toD (hs ks cs), Datum.toD (Tup.mk log), Datum.toD (Tup.mk plain)]) :=
        .tup (sqt_of upd_same) (.cons (Dp.dq (Dp.mono s4 (Dp.mono off_le hh3))) (.cons (Dp.dq (Dp.mono s4 (Dp.mono off_le hl3))) (.cons (Dp.dq (Dp.mono s4 (Dp.mono off_le hp))) .nil)))
      refine ⟨_, _, rfl, dqT, smd.sh, smd.fits (Nat.le_refl _), smd.dp, ?_⟩
      have b4 := b3.new (o := .tup [hv, lv, pv]) nT
      have k4 : Kp [b] H3 (upd H3 T (.tup [hv, lv, pv])) := Kp.new nT
      revert b4 k4
      generalize upd H3 T (.tup [hv, lv, pv]) = H4
      intro b4 k4
      refine ⟨lv, rfl, pv, rfl, len_ok (by simp), fun E nE => ⟨lv, rfl, len_ok (by simp), fun T2 nT2 => ⟨T2, rfl, ⟨_, sqt_of upd_same⟩, ?_⟩⟩⟩
      have Eb := b4.ne nE
      have b5 := b4.new (o := .tup []) nE
      have T2b := b5.ne nT2
      have b6 := b5.new (o := .tup [lv, pv, .ref E, lv]) nT2
      have k6 := (k4.up (o := .tup []) nE).up (o := .tup [lv, pv, .ref E, lv]) nT2
      have eE : (upd (upd H4 E (.tup [])) T2 (.tup [lv, pv, .ref E, lv])) E = some (.tup []) := (same_new nT2) _ _ upd_same
      have eT2 : (upd (upd H4 E (.tup [])) T2 (.tup [lv, pv, .ref E, lv])) T2 = some (.tup [lv, pv, .ref E, lv]) := upd_same
      revert b6 k6 eE eT2
      generalize upd (upd H4 E (.tup [])) T2 (.tup [lv, pv, .ref E, lv]) = H6
      intro b6 k6 eE eT2
      have hh6 := Dp.mono k6.off' hh3
      have hl6 := Dp.mono k6.off' hl3
      have hp6 := Dp.mono k6.off' hp
      have items : ∀ z ∈ [lv, pv, .ref E, lv], ∃ rows, Hd K (off H6 [b]) z (Tup.mk rows) ∧ LogOk ks cs rows := by
        simp only [List.forall_mem_cons]
        exact ⟨⟨log, hl6, ok⟩, ⟨plain, hp6, okp⟩, ⟨[], hd_tup (sqt_of (off_of (by simpa using Eb) eE)) .nil, LogOk.nil⟩, ⟨log, hl6, ok⟩, fun _ h => nomatch h⟩
      refine for_it (walk_tup (xs := [lv, pv, .ref E, lv])) (fun i σ H7 => (∃ y8, σ = [some (.ref a), some (.ref b), y2, some hv, some (.int (most : Int)), some lv, some pv, some (.str (PyData.shown (.tuple [Datum.toD (hs ks cs), Datum.toD (Tup.mk log), Datum.toD (Tup.mk plain)]))), y8]) ∧ Kp [b] H6 H7 ∧ Bg H7 b c)
        ⟨⟨_, rfl⟩, Kp.refl _ _, b6⟩ (fun i σ H7 _ u => sqt_of (u.2.1 _ _ (by simpa using T2b) eT2)) ?_ ?_
      · rintro i z σ H7' H7 hi ⟨⟨y8, rfl⟩, k7, b7⟩ ⟨rfl, hz⟩
        obtain ⟨rows, hz6, okz⟩ := items z (List.mem_of_getElem? hz)
        refine ⟨.ref b, rfl, hv, rfl, z, rfl, b, c, hv, z, ks, cs, rows, rfl, b7, Dp.mono k7.off' hh6, vh, Dp.mono k7.off' hz6, okz, fun H8 k8 b8 => ⟨true, rfl, ifF rfl ?_⟩⟩
        have k78 := k7.trans k8
        refine ⟨hv, rfl, z, rfl, hv, z, ks, cs, rows, rfl, Dp.mono off_le (Dp.mono k78.off' hh6), vh, Dp.mono off_le (Dp.mono k78.off' hz6), okz, fun H9 s9 => ⟨true, rfl, ifF rfl ?_⟩⟩
        exact ⟨⟨_, rfl⟩, k78.trans (Kp.of_same s9), b8.kp (Kp.of_same (S := []) s9) (by simp) (by simp)⟩
      · rintro σ H7 ⟨⟨y8, rfl⟩, k7, b7⟩
        have hh7 := Dp.mono off_le (Dp.mono k7.off' hh6)
        have hl7 := Dp.mono off_le (Dp.mono k7.off' hl6)
        have hp7 := Dp.mono off_le (Dp.mono k7.off' hp6)
        refine ⟨pv, rfl, hv, rfl, pv, rfl, hv, pv, ks, cs, plain, rfl, hh7, vh, hp7, okp, fun TK H8 nTK eTK s8 => ?_⟩
        refine ⟨pv, TK, ks, cs, plain, rfl, Dp.mono s8 hp7, okp, eTK, fun H9 s9 => ⟨true, rfl, ifF rfl ?_⟩⟩
        refine ⟨hv, rfl, lv, rfl, pv, rfl, len_ok (by simp), fun T3 nT3 => ?_⟩
        have s10 : Same H9 (upd H9 T3 (.tup [hv, lv, pv])) := same_new nT3
        have s710 := (s8.trans s9).trans s10
        have dq3 : Dq K (upd H9 T3 (.tup [hv, lv, pv])) (.ref T3) (.tuple [Datum.toD (hs ks cs), Datum.toD (Tup.mk log), Datum.toD (Tup.mk plain)]) :=
          .tup (sqt_of upd_same) (.cons (Dp.dq (Dp.mono s710 hh7)) (.cons (Dp.dq (Dp.mono s710 hl7)) (.cons (Dp.dq (Dp.mono s710 hp7)) .nil)))
        refine ⟨_, _, rfl, dq3, smd.sh, smd.fits (Nat.le_refl _), smd.dp, _, rfl, rfl, _, rfl, ifF (by simp) ?_⟩
        exact fin _ _ _ _ _ (b7.kp (Kp.of_same (S := []) s710) (by simp) (by simp))
    refine ⟨.ref a, rfl, a, ns, rfl, ha, fun b c H1 nb nc s1 b1 => ?_⟩
    refine ⟨2, rfl, by decide, by decide, ?_⟩
    refine for_it (walk_range (lo := 0) (n := 2)) (fun i σ H2 => (∃ y2 y3 y4 y5 y6 y7 y8, σ = [some (.ref a), some (.ref b), y2, y3, y4, y5, y6, y7, y8]) ∧ Bg H2 b c) ⟨⟨_, _, _, _, _, _, _, rfl⟩, b1⟩ (fun _ _ _ _ _ => trivial) ?_ ?_
    · rintro i z σ H2' H2 hi ⟨⟨y2, y3, y4, y5, y6, y7, y8, rfl⟩, b2⟩ ⟨rfl, rfl⟩
      refine ⟨.ref b, rfl, .ref b, rfl, len_ok (by simp), fun L1 nL1 => ?_⟩
      have L1b := b2.ne nL1
      refine ⟨b, c, L1, _, rfl, b2.new nL1, .inl (sql_of (off_of (by simpa using L1b) upd_same)), by simp, by simp, fun j v H3 ev k3 b3 => ?_⟩
      obtain ⟨n1, rfl, h1, h2⟩ : ∃ n : Nat, v = .int (n : Int) ∧ 1 ≤ n ∧ n ≤ 6 := by
        have hall : ∀ v ∈ [V.int 3, V.int 4, V.int 6], ∃ n : Nat, v = .int (n : Int) ∧ 1 ≤ n ∧ n ≤ 6 := by
          simp only [List.forall_mem_cons]
          exact ⟨⟨3, rfl, by decide, by decide⟩, ⟨4, rfl, by decide, by decide⟩, ⟨6, rfl, by decide, by decide⟩, fun _ h => nomatch h⟩
        exact hall v (List.mem_of_getElem? ev)
      refine ⟨.ref b, rfl, len_ok (by simp), fun L2 nL2 => ?_⟩
      have L2b := b3.ne nL2
      refine ⟨b, c, L2, _, rfl, b3.new nL2, .inl (sql_of (off_of (by simpa using L2b) upd_same)), by simp, by simp, fun j2 v2 H4 ev2 k4 b4 => ?_⟩
      obtain ⟨n2, rfl, h3, h4⟩ : ∃ n : Nat, v2 = .int (n : Int) ∧ 1 ≤ n ∧ n ≤ 8 := by
        have hall : ∀ v ∈ [V.int 4, V.int 3, V.int 8], ∃ n : Nat, v = .int (n : Int) ∧ 1 ≤ n ∧ n ≤ 8 := by
          simp only [List.forall_mem_cons]
          exact ⟨⟨4, rfl, by decide, by decide⟩, ⟨3, rfl, by decide, by decide⟩, ⟨8, rfl, by decide, by decide⟩, fun _ h => nomatch h⟩
        exact hall v2 (List.mem_of_getElem? ev2)
      refine ⟨b, c, n1, n2, rfl, b4, h1, h2, h3, h4, fun hv ks cs H5 hh vh k5 b5 => ?_⟩
      refine ⟨.ref b, rfl, b, c, 8, rfl, b5, by decide, by decide, fun r H6 r0 r1 k6 b6 => ?_⟩
      have hh6 := Dp.mono k6.off' hh
      refine ⟨_, _, rfl, rfl, _, rfl, ite2 (fun _ => ?_) (fun _ => ?_)⟩
      · refine ⟨.ref b, rfl, len_ok (by simp), fun L3 nL3 => ?_⟩
        have L3b := b6.ne nL3
        refine ⟨b, c, L3, _, rfl, b6.new nL3, .inl (sql_of (off_of (by simpa using L3b) upd_same)), by simp, by simp, fun j3 v3 H7 ev3 k7 b7 => ?_⟩
        obtain ⟨n3, rfl, h5⟩ : ∃ n : Nat, v3 = .int (n : Int) ∧ n ≤ 200 := by
          have hall : ∀ v ∈ [V.int 12, V.int 25, V.int 40, V.int 40], ∃ n : Nat, v = .int (n : Int) ∧ n ≤ 200 := by
            simp only [List.forall_mem_cons]
            exact ⟨⟨12, rfl, by decide⟩, ⟨25, rfl, by decide⟩, ⟨40, rfl, by decide⟩, ⟨40, rfl, by decide⟩, fun _ h => nomatch h⟩
          exact hall v3 (List.mem_of_getElem? ev3)
        have k67 : Kp [b] H6 H7 := (Kp.new nL3).trans k7
        exact ⟨_, _, _, _, _, hv, ks, cs, b, c, n3, rfl, h5, Dp.mono k67.off' hh6, vh, b7, fun _ _ _ _ H8 b8 => ⟨⟨_, _, _, _, _, _, _, rfl⟩, b8⟩⟩
      · exact ⟨_, _, _, _, _, hv, ks, cs, b, c, 200, rfl, by decide, hh6, vh, b6, fun _ _ _ _ H8 b8 => ⟨⟨_, _, _, _, _, _, _, rfl⟩, b8⟩⟩
    · rintro σ H2 ⟨_, b2⟩
      exact q H2
end
end CB
set_option Elab.async false
set_option linter.all false
set_option maxRecDepth 100000
set_option maxHeartbeats 4000000
namespace CB
open PySem PySem.Spec
open PyProof.Rows L2
open PySem.W (Datum Tup DatumOrd)
section
variable {P : Program} {w : World} {K : PySem.W.Frag} {mg : Str → Option Value} {base : Heap} {C p0 p1 p2 p3 : Addr} {t1 t2 t3 t4 : Tok}
theorem CalG.mono {x : Str} {ps : List Str} {j k : Nat} {sp : Sp} (c : CalG P w K mg base x ps j sp) (h : j ≤ k) : CalG P w K mg base x ps k sp := by
  obtain ⟨f, fd, F, r⟩ := c.ex
  exact ⟨f, fd, ⟨F.len, fun A outer s H args us vs Q E hr => F.run A outer s H args us vs Q E (hr.mono h)⟩, r⟩
theorem all_of {f0 : Addr} {fd0 : FuncData} (B : Blt mg) (M : Cst mg t1 t2 t3 t4) (SC : StC K mg C p0 p1 p2 p3)
    (D_law_take : Def K mg "_law_take" s_law_take p_law_take)
    (D_law_one : Def K mg "_law_one" s_law_one p_law_one)
    (D_law_mixed : Def K mg "_law_mixed" s_law_mixed p_law_mixed)
    (D_law_bag : Def K mg "_law_bag" s_law_bag p_law_bag)
    (D_is_name : Def K mg "is_name" s_is_name p_is_name)
    (D_is_tuple_of : Def K mg "is_tuple_of" s_is_tuple_of p_is_tuple_of)
    (D_are_names : Def K mg "are_names" s_are_names p_are_names)
    (D_in_order : Def K mg "in_order" s_in_order p_in_order)
    (D_is_part : Def K mg "is_part" s_is_part p_is_part)
    (D_is_house : Def K mg "is_house" s_is_house p_is_house)
    (D_is_set : Def K mg "is_set" s_is_set p_is_set)
    (D_is_kind : Def K mg "is_kind" s_is_kind p_is_kind)
    (D_is_call : Def K mg "is_call" s_is_call p_is_call)
    (MD_init : MDef K C "__init__" "Store.__init__" s_St_init p_St_init)
    (MD_put : MDef K C "put" "Store.put" s_St_put p_St_put)
    (MD_first_of : MDef K C "first_of" "Store.first_of" s_St_first_of p_St_first_of)
    (MD_take : MDef K C "take" "Store.take" s_St_take p_St_take)
    (MD_drop : MDef K C "drop" "Store.drop" s_St_drop p_St_drop)
    (MD_there : MDef K C "there" "Store.there" s_St_there p_St_there)
    (MD_rows : MDef K C "rows" "Store.rows" s_St_rows p_St_rows)
    (MD_amounts : MDef K C "amounts" "Store.amounts" s_St_amounts p_St_amounts)
    (D_do_row : Def K mg "do_row" s_do_row p_do_row)
    (D_store_behind : Def K mg "store_behind" s_store_behind p_store_behind)
    (D_told_by : Def K mg "told_by" s_told_by p_told_by)
    (D_taken_by : Def K mg "taken_by" s_taken_by p_taken_by)
    (D_there_at : Def K mg "there_at" s_there_at p_there_at)
    (D_amounts_at : Def K mg "amounts_at" s_amounts_at p_amounts_at)
    (D_served_at : Def K mg "served_at" s_served_at p_served_at)
    (D_law_alike : Def K mg "_law_alike" s_law_alike p_law_alike)
    (D_law_row_done : Def K mg "_law_row_done" s_law_row_done p_law_row_done)
    (D_law_played : Def K mg "_law_played" s_law_played p_law_played)
    (D_law_log_pairs : Def K mg "_law_log_pairs" s_law_log_pairs p_law_log_pairs)
    (D_law_put_indexes : Def K mg "_law_put_indexes" s_law_put_indexes p_law_put_indexes)
    (D_law_thing_names : Def K mg "_law_thing_names" s_law_thing_names p_law_thing_names)
    (D_law_log_of : Def K mg "_law_log_of" s_law_log_of p_law_log_of)
    (D_law_stretch : Def K mg "_law_stretch" s_law_stretch p_law_stretch)
    (D_law_plain_log : Def K mg "_law_plain_log" s_law_plain_log p_law_plain_log)
    (D_law_log : Def K mg "_law_log" s_law_log p_law_log)
    (D_law_any_calls : Def K mg "_law_any_calls" s_law_any_calls p_law_any_calls)
    (D_law_bent_call : Def K mg "_law_bent_call" s_law_bent_call p_law_bent_call)
    (D_law_paths : Def K mg "_law_paths" s_law_paths p_law_paths)
    (D_law_forks : Def K mg "_law_forks" s_law_forks p_law_forks)
    (D_law_named : Def K mg "_law_named" s_law_named p_law_named)
    (D_law_house : Def K mg "_law_house" s_law_house p_law_house)
    (D_law_is_giving : Def K mg "_law_is_giving" s_law_is_giving p_law_is_giving)
    (D_law_is_played_right : Def K mg "_law_is_played_right" s_law_is_played_right p_law_is_played_right)
    (D_law_is_store_led : Def K mg "_law_is_store_led" s_law_is_store_led p_law_is_store_led)
    (D_law : Fun K "law" "law" s_law f0 fd0) :
    FnG P w K mg base 11 f0 fd0 p_law (spLaw K) := by
  have H_law_take : Cal P w K mg base "_law_take" p_law_take 1 spTake := c_take D_law_take B
  have H_law_one : Cal P w K mg base "_law_one" p_law_one 2 (spOne K) := c_one D_law_one B (H_law_take.mono (by decide))
  have H_law_mixed : Cal P w K mg base "_law_mixed" p_law_mixed 2 (spMixed K) := c_mixed D_law_mixed B (H_law_take.mono (by decide))
  have H_law_bag : Cal P w K mg base "_law_bag" p_law_bag 1 (spBag K) := c_bag D_law_bag B
  have H_is_name : Cal P w K mg base "is_name" p_is_name 1 spName := c_is_name D_is_name B M
  have H_is_tuple_of : Cal P w K mg base "is_tuple_of" p_is_tuple_of 1 (spTupOf K) := c_is_tuple_of D_is_tuple_of B
  have H_are_names : Cal P w K mg base "are_names" p_are_names 2 (spNames K) := c_are_names D_are_names B M (H_is_name.mono (by decide))
  have H_in_order : Cal P w K mg base "in_order" p_in_order 1 (spInOrder K) := c_in_order D_in_order B
  have H_is_part : Cal P w K mg base "is_part" p_is_part 2 (spIsPart K) := c_is_part D_is_part B (H_in_order.mono (by decide))
  have H_is_house : Cal P w K mg base "is_house" p_is_house 3 (spHouse K) := c_is_house D_is_house B M (H_is_tuple_of.mono (by decide)) (H_are_names.mono (by decide)) (H_is_part.mono (by decide))
  have H_is_set : Cal P w K mg base "is_set" p_is_set 3 (spIsSet K) := c_is_set D_is_set (H_is_part.mono (by decide))
  have H_is_kind : Cal P w K mg base "is_kind" p_is_kind 1 (spIsKind K) := c_is_kind D_is_kind B
  have H_is_call : Cal P w K mg base "is_call" p_is_call 4 (spIsSet K) := c_is_call D_is_call (H_is_set.mono (by decide))
  have H_minit : MCal P w K mg base C "__init__" p_St_init 4 (spInit K C) := m_init MD_init SC B (H_is_house.mono (by decide))
  have H_mput : MCal P w K mg base C "put" p_St_put 2 (spPut K C) := m_put MD_put SC B (H_is_name.mono (by decide)) (H_is_kind.mono (by decide))
  have H_mfirst_of : MCal P w K mg base C "first_of" p_St_first_of 1 (spFirst K C) := m_first MD_first_of SC
  have H_mtake : MCal P w K mg base C "take" p_St_take 5 (spTakeS K C) := m_take MD_take SC B (H_is_call.mono (by decide)) (H_mfirst_of.mono (by decide))
  have H_mdrop : MCal P w K mg base C "drop" p_St_drop 2 (spDrop K C) := m_drop MD_drop SC B (H_is_name.mono (by decide))
  have H_mthere : MCal P w K mg base C "there" p_St_there 1 (spThere K C) := m_there MD_there SC B
  have H_mrows : MCal P w K mg base C "rows" p_St_rows 1 (spRows K C) := m_rows MD_rows SC B
  have H_mamounts : MCal P w K mg base C "amounts" p_St_amounts 1 (spAmounts K C) := m_amounts MD_amounts SC B
  have H_do_row : Cal P w K mg base "do_row" p_do_row 6 (spDo K C) := c_do_row D_do_row SC (H_mput.mono (by decide)) (H_mdrop.mono (by decide)) (H_mtake.mono (by decide))
  have H_store_behind : Cal P w K mg base "store_behind" p_store_behind 7 (spBehind K C) := c_store_behind D_store_behind SC (H_minit.mono (by decide)) (H_do_row.mono (by decide))
  have H_told_by : Cal P w K mg base "told_by" p_told_by 7 (spTold K) := c_told_by D_told_by B SC (H_minit.mono (by decide)) (H_do_row.mono (by decide))
  have H_taken_by : Cal P w K mg base "taken_by" p_taken_by 8 (spTaken K) := c_taken_by D_taken_by B (H_told_by.mono (by decide))
  have H_there_at : Cal P w K mg base "there_at" p_there_at 8 (spThereAt K) := c_there_at D_there_at SC (H_store_behind.mono (by decide)) (H_mthere.mono (by decide))
  have H_amounts_at : Cal P w K mg base "amounts_at" p_amounts_at 8 (spAmountsAt K) := c_amounts_at D_amounts_at SC (H_store_behind.mono (by decide)) (H_mamounts.mono (by decide))
  have H_served_at : Cal P w K mg base "served_at" p_served_at 9 (spServed K) := c_served_at D_served_at B (H_taken_by.mono (by decide))
  have H_law_alike : CalG P w K mg base "_law_alike" p_law_alike 1 (spAlike K) := c_alike D_law_alike B
  have H_law_row_done : Cal P w K mg base "_law_row_done" p_law_row_done 1 (spRowDone K) := c_row_done D_law_row_done
  have H_law_played : Cal P w K mg base "_law_played" p_law_played 2 (spPlayed K) := c_played D_law_played B (H_law_row_done.mono (by decide))
  have H_law_log_pairs : Cal P w K mg base "_law_log_pairs" p_law_log_pairs 1 (spPairs K) := c_log_pairs D_law_log_pairs B
  have H_law_put_indexes : Cal P w K mg base "_law_put_indexes" p_law_put_indexes 1 (spPutIx K) := c_put_indexes D_law_put_indexes B
  have H_law_thing_names : Cal P w K mg base "_law_thing_names" p_law_thing_names 2 (spNms K) := c_thing_names D_law_thing_names B (H_law_take.mono (by decide))
  have H_law_log_of : Cal P w K mg base "_law_log_of" p_law_log_of 3 (spLogOf K) := c_log_of D_law_log_of B (H_law_thing_names.mono (by decide))
  have H_law_stretch : Cal P w K mg base "_law_stretch" p_law_stretch 3 (spStretch K) := c_stretch D_law_stretch B (H_law_take.mono (by decide)) (H_law_one.mono (by decide))
  have H_law_plain_log : Cal P w K mg base "_law_plain_log" p_law_plain_log 4 (spPlain K) := c_plain_log D_law_plain_log (H_law_log_of.mono (by decide)) (H_law_stretch.mono (by decide))
  have H_law_log : Cal P w K mg base "_law_log" p_law_log 5 (spLog K) := c_log D_law_log B (H_law_plain_log.mono (by decide)) (H_law_one.mono (by decide))
  have H_law_any_calls : Cal P w K mg base "_law_any_calls" p_law_any_calls 2 (spAny K) := c_any_calls D_law_any_calls B (H_law_take.mono (by decide))
  have H_law_bent_call : Cal P w K mg base "_law_bent_call" p_law_bent_call 3 (spBent K) := c_bent_call D_law_bent_call B (H_law_take.mono (by decide)) (H_law_one.mono (by decide))
  have H_law_paths : Cal P w K mg base "_law_paths" p_law_paths 3 (spPaths K) := c_paths D_law_paths B (H_law_one.mono (by decide)) (H_law_mixed.mono (by decide))
  have H_law_forks : Cal P w K mg base "_law_forks" p_law_forks 1 (spForks K) := c_forks D_law_forks B
  have H_law_named : Cal P w K mg base "_law_named" p_law_named 3 (spNamed K) := c_named D_law_named B (H_law_take.mono (by decide)) (H_law_mixed.mono (by decide))
  have H_law_house : Cal P w K mg base "_law_house" p_law_house 4 (spLHouse K) := c_house D_law_house B (H_law_take.mono (by decide)) (H_law_one.mono (by decide)) (H_law_mixed.mono (by decide)) (H_law_paths.mono (by decide)) (H_law_forks.mono (by decide)) (H_law_bent_call.mono (by decide)) (H_law_any_calls.mono (by decide)) (H_law_named.mono (by decide))
  have H_law_is_giving : Cal P w K mg base "_law_is_giving" p_law_is_giving 2 (spGiving K) := c_giving D_law_is_giving B (H_law_log_pairs.mono (by decide))
  have H_law_is_played_right : CalG P w K mg base "_law_is_played_right" p_law_is_played_right 10 (spRight K) := c_right D_law_is_played_right B (H_law_played.mono (by decide)) (H_law_put_indexes.mono (by decide)) (H_told_by.mono (by decide)) (H_taken_by.mono (by decide)) (H_served_at.mono (by decide)) (H_law_alike.mono (by decide)) (H_law_mixed.mono (by decide)) (H_there_at.mono (by decide)) (H_amounts_at.mono (by decide))
  have H_law_is_store_led : CalG P w K mg base "_law_is_store_led" p_law_is_store_led 10 (spLed K) := c_led D_law_is_store_led B SC (H_minit.mono (by decide)) (H_mput.mono (by decide)) (H_mdrop.mono (by decide)) (H_mtake.mono (by decide)) (H_mthere.mono (by decide)) (H_mrows.mono (by decide)) (H_mamounts.mono (by decide)) (H_law_played.mono (by decide)) (H_told_by.mono (by decide)) (H_law_alike.mono (by decide)) (H_there_at.mono (by decide)) (H_amounts_at.mono (by decide))
  have H_law : FnG P w K mg base 11 f0 fd0 p_law (spLaw K) := c_law D_law B (H_law_bag.mono (by decide)) (H_law_house.mono (by decide)) (H_law_one.mono (by decide)) (H_law_take.mono (by decide)) (H_law_log.mono (by decide)) (H_law_plain_log.mono (by decide)) (H_law_is_played_right.mono (by decide)) (H_law_is_store_led.mono (by decide)) (H_law_is_giving.mono (by decide)) (H_taken_by.mono (by decide))
  exact H_law
abbrev fragOf {K : PySem.W.Frag} {h : Heap} (_ : K.In h) : PySem.W.Frag := K
theorem def_of {x : Str} {st : Stmt} {ps : List Str} {h : Heap} {f : Addr} {od an : Option Addr} {sl : Array (Option Value)} {oc kV dc pm cd ct : Value} (X : K.In h) (G : h.Ns mainGlobals mg)
    (a : PySem.W.nsIn K mainGlobals x = some (some (.ref f))) (l : K.lookup f = some ⟨oc, od, .func (PySem.W.fnOf x x (defArgs st) (defBody st) (defScope st) .none kV dc pm an cd ct), sl⟩) (c : PySem.W.codeIn K cd x = true) (k : PySem.W.keepIn K (.ref f) = true)
    (b : ∀ (kV doc pm : Value) (an : Option Addr) (cdv ct : Value) (us : List Value), us.length = ps.length → bindArgs (PySem.W.fnOf x x (defArgs st) (defBody st) (defScope st) .none kV doc pm an cdv ct) ⟨us, []⟩ = pure (ps.zip us)) : Def K mg x st ps :=
  ⟨f, _, fun_mk l c k, PySem.W.mg_of X G a, (fun_mk l c k).binds b⟩
theorem mdef_of {x q : Str} {st : Stmt} {ps : List Str} {f : Addr} {od an : Option Addr} {sl : Array (Option Value)} {oc kV dc pm cd ct : Value}
    (a : PySem.W.findIn K (.ref C) x = some (some (.ref f))) (l : K.lookup f = some ⟨oc, od, .func (PySem.W.fnOf x q (defArgs st) (defBody st) (defScope st) .none kV dc pm an cd ct), sl⟩) (c : PySem.W.codeIn K cd q = true) (k : PySem.W.keepIn K (.ref f) = true) (n : PySem.W.isFn K (.ref f) = true)
    (b : ∀ (kV doc pm : Value) (an : Option Addr) (cdv ct : Value) (us : List Value), us.length = ps.length → bindArgs (PySem.W.fnOf x q (defArgs st) (defBody st) (defScope st) .none kV doc pm an cdv ct) ⟨us, []⟩ = pure (ps.zip us)) : MDef K C x q st ps :=
  ⟨f, _, fun_mk l c k, ⟨a, n, k⟩, (fun_mk l c k).binds b⟩
end
end CB
set_option Elab.async false
set_option linter.all false
set_option maxRecDepth 100000
open PySem PySem.W PyProof.Rows in
set_option maxHeartbeats 0 in
theorem PySem.Challenge.cw_calledbest_k06_whole_logs_played_holds : PySem.Challenge.rw_calledbest_k06_whole_logs_played.Holds := by
  w_on; o_law; k_head; (case hw => w_witness2)
  k_fill
  refine CB.walk_ofG (l := PySem.Challenge.rw_calledbest_k06_whole_logs_played) (n := 63) (k := 11) (x := "_law_script") (sp := CB.spLaw) rfl (by decide) rfl ⟨⟨rfl, by decide, by decide⟩, rfl⟩ (fun w h Y => PySem.W.kIn_of Y) ?F (fun _ _ a ns hl _ hS => ⟨a, ns, rfl, hS, fun _ => rfl⟩)
  case F =>
    intro w mg fa h KX G hmg
    have B : CB.Blt mg := by
      refine' ⟨PySem.W.mg_none_of KX G ?z0, PySem.W.mg_none_of KX G ?z1, PySem.W.mg_none_of KX G ?z2, PySem.W.mg_none_of KX G ?z3, PySem.W.mg_none_of KX G ?z4, PySem.W.mg_none_of KX G ?z5, PySem.W.mg_none_of KX G ?z6, PySem.W.mg_none_of KX G ?z7, PySem.W.mg_none_of KX G ?z8, PySem.W.mg_none_of KX G ?z9, PySem.W.mg_none_of KX G ?z10, PySem.W.mg_none_of KX G ?z11, PySem.W.mg_none_of KX G ?z12, PySem.W.mg_none_of KX G ?z13, PySem.W.mg_none_of KX G ?z14, PySem.W.mg_none_of KX G ?z15, PySem.W.mg_none_of KX G ?z16⟩
      all_goals k_is
    have M : ∃ t1 t2 t3 t4, CB.Cst mg t1 t2 t3 t4 := by
      refine' ⟨_, _, _, _, PySem.W.mg_of KX G ?c1, PySem.W.mg_of KX G ?c2, PySem.W.mg_of KX G ?c3, PySem.W.mg_of KX G ?c4⟩
      (case c1 => k_is); (case c2 => k_is); (case c3 => k_is); (case c4 => k_is)
    obtain ⟨_, _, _, _, M⟩ := M
    have D_law_take : CB.Def (CB.fragOf KX) mg "_law_take" CB.s_law_take CB.p_law_take := by
      dsimp only [CB.fragOf]
      refine' CB.def_of KX G ?a ?l ?c ?k (fun _ _ _ _ _ _ us hl => match us, hl with | [_, _], _ => rfl)
      (case a => k_is); (case l => k_is); (case c => k_is); (case k => k_is)
    have D_law_one : CB.Def (CB.fragOf KX) mg "_law_one" CB.s_law_one CB.p_law_one := by
      dsimp only [CB.fragOf]
      refine' CB.def_of KX G ?a ?l ?c ?k (fun _ _ _ _ _ _ us hl => match us, hl with | [_, _], _ => rfl)
      (case a => k_is); (case l => k_is); (case c => k_is); (case k => k_is)
    have D_law_mixed : CB.Def (CB.fragOf KX) mg "_law_mixed" CB.s_law_mixed CB.p_law_mixed := by
      dsimp only [CB.fragOf]
      refine' CB.def_of KX G ?a ?l ?c ?k (fun _ _ _ _ _ _ us hl => match us, hl with | [_, _], _ => rfl)
      (case a => k_is); (case l => k_is); (case c => k_is); (case k => k_is)
    have D_law_bag : CB.Def (CB.fragOf KX) mg "_law_bag" CB.s_law_bag CB.p_law_bag := by
      dsimp only [CB.fragOf]
      refine' CB.def_of KX G ?a ?l ?c ?k (fun _ _ _ _ _ _ us hl => match us, hl with | [_], _ => rfl)
      (case a => k_is); (case l => k_is); (case c => k_is); (case k => k_is)
    have D_is_name : CB.Def (CB.fragOf KX) mg "is_name" CB.s_is_name CB.p_is_name := by
      dsimp only [CB.fragOf]
      refine' CB.def_of KX G ?a ?l ?c ?k (fun _ _ _ _ _ _ us hl => match us, hl with | [_], _ => rfl)
      (case a => k_is); (case l => k_is); (case c => k_is); (case k => k_is)
    have D_is_tuple_of : CB.Def (CB.fragOf KX) mg "is_tuple_of" CB.s_is_tuple_of CB.p_is_tuple_of := by
      dsimp only [CB.fragOf]
      refine' CB.def_of KX G ?a ?l ?c ?k (fun _ _ _ _ _ _ us hl => match us, hl with | [_, _], _ => rfl)
      (case a => k_is); (case l => k_is); (case c => k_is); (case k => k_is)
    have D_are_names : CB.Def (CB.fragOf KX) mg "are_names" CB.s_are_names CB.p_are_names := by
      dsimp only [CB.fragOf]
      refine' CB.def_of KX G ?a ?l ?c ?k (fun _ _ _ _ _ _ us hl => match us, hl with | [_], _ => rfl)
      (case a => k_is); (case l => k_is); (case c => k_is); (case k => k_is)
    have D_in_order : CB.Def (CB.fragOf KX) mg "in_order" CB.s_in_order CB.p_in_order := by
      dsimp only [CB.fragOf]
      refine' CB.def_of KX G ?a ?l ?c ?k (fun _ _ _ _ _ _ us hl => match us, hl with | [_, _], _ => rfl)
      (case a => k_is); (case l => k_is); (case c => k_is); (case k => k_is)
    have D_is_part : CB.Def (CB.fragOf KX) mg "is_part" CB.s_is_part CB.p_is_part := by
      dsimp only [CB.fragOf]
      refine' CB.def_of KX G ?a ?l ?c ?k (fun _ _ _ _ _ _ us hl => match us, hl with | [_, _], _ => rfl)
      (case a => k_is); (case l => k_is); (case c => k_is); (case k => k_is)
    have D_is_house : CB.Def (CB.fragOf KX) mg "is_house" CB.s_is_house CB.p_is_house := by
      dsimp only [CB.fragOf]
      refine' CB.def_of KX G ?a ?l ?c ?k (fun _ _ _ _ _ _ us hl => match us, hl with | [_], _ => rfl)
      (case a => k_is); (case l => k_is); (case c => k_is); (case k => k_is)
    have D_is_set : CB.Def (CB.fragOf KX) mg "is_set" CB.s_is_set CB.p_is_set := by
      dsimp only [CB.fragOf]
      refine' CB.def_of KX G ?a ?l ?c ?k (fun _ _ _ _ _ _ us hl => match us, hl with | [_, _], _ => rfl)
      (case a => k_is); (case l => k_is); (case c => k_is); (case k => k_is)
    have D_is_kind : CB.Def (CB.fragOf KX) mg "is_kind" CB.s_is_kind CB.p_is_kind := by
      dsimp only [CB.fragOf]
      refine' CB.def_of KX G ?a ?l ?c ?k (fun _ _ _ _ _ _ us hl => match us, hl with | [_, _], _ => rfl)
      (case a => k_is); (case l => k_is); (case c => k_is); (case k => k_is)
    have D_is_call : CB.Def (CB.fragOf KX) mg "is_call" CB.s_is_call CB.p_is_call := by
      dsimp only [CB.fragOf]
      refine' CB.def_of KX G ?a ?l ?c ?k (fun _ _ _ _ _ _ us hl => match us, hl with | [_, _], _ => rfl)
      (case a => k_is); (case l => k_is); (case c => k_is); (case k => k_is)
    have D_do_row : CB.Def (CB.fragOf KX) mg "do_row" CB.s_do_row CB.p_do_row := by
      dsimp only [CB.fragOf]
      refine' CB.def_of KX G ?a ?l ?c ?k (fun _ _ _ _ _ _ us hl => match us, hl with | [_, _], _ => rfl)
      (case a => k_is); (case l => k_is); (case c => k_is); (case k => k_is)
    have D_store_behind : CB.Def (CB.fragOf KX) mg "store_behind" CB.s_store_behind CB.p_store_behind := by
      dsimp only [CB.fragOf]
      refine' CB.def_of KX G ?a ?l ?c ?k (fun _ _ _ _ _ _ us hl => match us, hl with | [_, _], _ => rfl)
      (case a => k_is); (case l => k_is); (case c => k_is); (case k => k_is)
    have D_told_by : CB.Def (CB.fragOf KX) mg "told_by" CB.s_told_by CB.p_told_by := by
      dsimp only [CB.fragOf]
      refine' CB.def_of KX G ?a ?l ?c ?k (fun _ _ _ _ _ _ us hl => match us, hl with | [_, _], _ => rfl)
      (case a => k_is); (case l => k_is); (case c => k_is); (case k => k_is)
    have D_taken_by : CB.Def (CB.fragOf KX) mg "taken_by" CB.s_taken_by CB.p_taken_by := by
      dsimp only [CB.fragOf]
      refine' CB.def_of KX G ?a ?l ?c ?k (fun _ _ _ _ _ _ us hl => match us, hl with | [_, _], _ => rfl)
      (case a => k_is); (case l => k_is); (case c => k_is); (case k => k_is)
    have D_there_at : CB.Def (CB.fragOf KX) mg "there_at" CB.s_there_at CB.p_there_at := by
      dsimp only [CB.fragOf]
      refine' CB.def_of KX G ?a ?l ?c ?k (fun _ _ _ _ _ _ us hl => match us, hl with | [_, _, _], _ => rfl)
      (case a => k_is); (case l => k_is); (case c => k_is); (case k => k_is)
    have D_amounts_at : CB.Def (CB.fragOf KX) mg "amounts_at" CB.s_amounts_at CB.p_amounts_at := by
      dsimp only [CB.fragOf]
      refine' CB.def_of KX G ?a ?l ?c ?k (fun _ _ _ _ _ _ us hl => match us, hl with | [_, _, _], _ => rfl)
      (case a => k_is); (case l => k_is); (case c => k_is); (case k => k_is)
    have D_served_at : CB.Def (CB.fragOf KX) mg "served_at" CB.s_served_at CB.p_served_at := by
      dsimp only [CB.fragOf]
      refine' CB.def_of KX G ?a ?l ?c ?k (fun _ _ _ _ _ _ us hl => match us, hl with | [_, _], _ => rfl)
      (case a => k_is); (case l => k_is); (case c => k_is); (case k => k_is)
    have D_law_alike : CB.Def (CB.fragOf KX) mg "_law_alike" CB.s_law_alike CB.p_law_alike := by
      dsimp only [CB.fragOf]
      refine' CB.def_of KX G ?a ?l ?c ?k (fun _ _ _ _ _ _ us hl => match us, hl with | [_, _], _ => rfl)
      (case a => k_is); (case l => k_is); (case c => k_is); (case k => k_is)
    have D_law_row_done : CB.Def (CB.fragOf KX) mg "_law_row_done" CB.s_law_row_done CB.p_law_row_done := by
      dsimp only [CB.fragOf]
      refine' CB.def_of KX G ?a ?l ?c ?k (fun _ _ _ _ _ _ us hl => match us, hl with | [_, _, _], _ => rfl)
      (case a => k_is); (case l => k_is); (case c => k_is); (case k => k_is)
    have D_law_played : CB.Def (CB.fragOf KX) mg "_law_played" CB.s_law_played CB.p_law_played := by
      dsimp only [CB.fragOf]
      refine' CB.def_of KX G ?a ?l ?c ?k (fun _ _ _ _ _ _ us hl => match us, hl with | [_, _], _ => rfl)
      (case a => k_is); (case l => k_is); (case c => k_is); (case k => k_is)
    have D_law_log_pairs : CB.Def (CB.fragOf KX) mg "_law_log_pairs" CB.s_law_log_pairs CB.p_law_log_pairs := by
      dsimp only [CB.fragOf]
      refine' CB.def_of KX G ?a ?l ?c ?k (fun _ _ _ _ _ _ us hl => match us, hl with | [_], _ => rfl)
      (case a => k_is); (case l => k_is); (case c => k_is); (case k => k_is)
    have D_law_put_indexes : CB.Def (CB.fragOf KX) mg "_law_put_indexes" CB.s_law_put_indexes CB.p_law_put_indexes := by
      dsimp only [CB.fragOf]
      refine' CB.def_of KX G ?a ?l ?c ?k (fun _ _ _ _ _ _ us hl => match us, hl with | [_], _ => rfl)
      (case a => k_is); (case l => k_is); (case c => k_is); (case k => k_is)
    have D_law_thing_names : CB.Def (CB.fragOf KX) mg "_law_thing_names" CB.s_law_thing_names CB.p_law_thing_names := by
      dsimp only [CB.fragOf]
      refine' CB.def_of KX G ?a ?l ?c ?k (fun _ _ _ _ _ _ us hl => match us, hl with | [_, _], _ => rfl)
      (case a => k_is); (case l => k_is); (case c => k_is); (case k => k_is)
    have D_law_log_of : CB.Def (CB.fragOf KX) mg "_law_log_of" CB.s_law_log_of CB.p_law_log_of := by
      dsimp only [CB.fragOf]
      refine' CB.def_of KX G ?a ?l ?c ?k (fun _ _ _ _ _ _ us hl => match us, hl with | [_, _], _ => rfl)
      (case a => k_is); (case l => k_is); (case c => k_is); (case k => k_is)
    have D_law_stretch : CB.Def (CB.fragOf KX) mg "_law_stretch" CB.s_law_stretch CB.p_law_stretch := by
      dsimp only [CB.fragOf]
      refine' CB.def_of KX G ?a ?l ?c ?k (fun _ _ _ _ _ _ us hl => match us, hl with | [_, _, _], _ => rfl)
      (case a => k_is); (case l => k_is); (case c => k_is); (case k => k_is)
    have D_law_plain_log : CB.Def (CB.fragOf KX) mg "_law_plain_log" CB.s_law_plain_log CB.p_law_plain_log := by
      dsimp only [CB.fragOf]
      refine' CB.def_of KX G ?a ?l ?c ?k (fun _ _ _ _ _ _ us hl => match us, hl with | [_, _, _], _ => rfl)
      (case a => k_is); (case l => k_is); (case c => k_is); (case k => k_is)
    have D_law_log : CB.Def (CB.fragOf KX) mg "_law_log" CB.s_law_log CB.p_law_log := by
      dsimp only [CB.fragOf]
      refine' CB.def_of KX G ?a ?l ?c ?k (fun _ _ _ _ _ _ us hl => match us, hl with | [_, _, _], _ => rfl)
      (case a => k_is); (case l => k_is); (case c => k_is); (case k => k_is)
    have D_law_any_calls : CB.Def (CB.fragOf KX) mg "_law_any_calls" CB.s_law_any_calls CB.p_law_any_calls := by
      dsimp only [CB.fragOf]
      refine' CB.def_of KX G ?a ?l ?c ?k (fun _ _ _ _ _ _ us hl => match us, hl with | [_, _, _], _ => rfl)
      (case a => k_is); (case l => k_is); (case c => k_is); (case k => k_is)
    have D_law_bent_call : CB.Def (CB.fragOf KX) mg "_law_bent_call" CB.s_law_bent_call CB.p_law_bent_call := by
      dsimp only [CB.fragOf]
      refine' CB.def_of KX G ?a ?l ?c ?k (fun _ _ _ _ _ _ us hl => match us, hl with | [_, _, _], _ => rfl)
      (case a => k_is); (case l => k_is); (case c => k_is); (case k => k_is)
    have D_law_paths : CB.Def (CB.fragOf KX) mg "_law_paths" CB.s_law_paths CB.p_law_paths := by
      dsimp only [CB.fragOf]
      refine' CB.def_of KX G ?a ?l ?c ?k (fun _ _ _ _ _ _ us hl => match us, hl with | [_, _, _], _ => rfl)
      (case a => k_is); (case l => k_is); (case c => k_is); (case k => k_is)
    have D_law_forks : CB.Def (CB.fragOf KX) mg "_law_forks" CB.s_law_forks CB.p_law_forks := by
      dsimp only [CB.fragOf]
      refine' CB.def_of KX G ?a ?l ?c ?k (fun _ _ _ _ _ _ us hl => match us, hl with | [_], _ => rfl)
      (case a => k_is); (case l => k_is); (case c => k_is); (case k => k_is)
    have D_law_named : CB.Def (CB.fragOf KX) mg "_law_named" CB.s_law_named CB.p_law_named := by
      dsimp only [CB.fragOf]
      refine' CB.def_of KX G ?a ?l ?c ?k (fun _ _ _ _ _ _ us hl => match us, hl with | [_, _, _, _], _ => rfl)
      (case a => k_is); (case l => k_is); (case c => k_is); (case k => k_is)
    have D_law_house : CB.Def (CB.fragOf KX) mg "_law_house" CB.s_law_house CB.p_law_house := by
      dsimp only [CB.fragOf]
      refine' CB.def_of KX G ?a ?l ?c ?k (fun _ _ _ _ _ _ us hl => match us, hl with | [_, _, _], _ => rfl)
      (case a => k_is); (case l => k_is); (case c => k_is); (case k => k_is)
    have D_law_is_giving : CB.Def (CB.fragOf KX) mg "_law_is_giving" CB.s_law_is_giving CB.p_law_is_giving := by
      dsimp only [CB.fragOf]
      refine' CB.def_of KX G ?a ?l ?c ?k (fun _ _ _ _ _ _ us hl => match us, hl with | [_, _], _ => rfl)
      (case a => k_is); (case l => k_is); (case c => k_is); (case k => k_is)
    have D_law_is_played_right : CB.Def (CB.fragOf KX) mg "_law_is_played_right" CB.s_law_is_played_right CB.p_law_is_played_right := by
      dsimp only [CB.fragOf]
      refine' CB.def_of KX G ?a ?l ?c ?k (fun _ _ _ _ _ _ us hl => match us, hl with | [_, _, _], _ => rfl)
      (case a => k_is); (case l => k_is); (case c => k_is); (case k => k_is)
    have D_law_is_store_led : CB.Def (CB.fragOf KX) mg "_law_is_store_led" CB.s_law_is_store_led CB.p_law_is_store_led := by
      dsimp only [CB.fragOf]
      refine' CB.def_of KX G ?a ?l ?c ?k (fun _ _ _ _ _ _ us hl => match us, hl with | [_, _], _ => rfl)
      (case a => k_is); (case l => k_is); (case c => k_is); (case k => k_is)
    have S : ∃ C p0 p1 p2 p3, CB.StC (CB.fragOf KX) mg C p0 p1 p2 p3 ∧ CB.MDef (CB.fragOf KX) C "__init__" "Store.__init__" CB.s_St_init CB.p_St_init ∧ CB.MDef (CB.fragOf KX) C "put" "Store.put" CB.s_St_put CB.p_St_put ∧ CB.MDef (CB.fragOf KX) C "first_of" "Store.first_of" CB.s_St_first_of CB.p_St_first_of ∧ CB.MDef (CB.fragOf KX) C "take" "Store.take" CB.s_St_take CB.p_St_take ∧ CB.MDef (CB.fragOf KX) C "drop" "Store.drop" CB.s_St_drop CB.p_St_drop ∧ CB.MDef (CB.fragOf KX) C "there" "Store.there" CB.s_St_there CB.p_St_there ∧ CB.MDef (CB.fragOf KX) C "rows" "Store.rows" CB.s_St_rows CB.p_St_rows ∧ CB.MDef (CB.fragOf KX) C "amounts" "Store.amounts" CB.s_St_amounts CB.p_St_amounts := by
      dsimp only [CB.fragOf]
      refine' ⟨_, _, _, _, _, ⟨⟨?stpg, ?stic, ?stpo, ?stsa⟩, ⟨?stf0, ?stg0, ?stk0, ?sty0, ?sti0, by decide⟩, ⟨?stf1, ?stg1, ?stk1, ?sty1, ?sti1, by decide⟩, ⟨?stf2, ?stg2, ?stk2, ?sty2, ?sti2, by decide⟩, ⟨?stf3, ?stg3, ?stk3, ?sty3, ?sti3, by decide⟩, ?stmk, ?stkp, PySem.W.mg_of KX G ?stnm⟩, CB.mdef_of ?sma0 ?sml0 ?smc0 ?smk0 ?smn0 (fun _ _ _ _ _ _ us hl => match us, hl with | [_, _], _ => rfl), CB.mdef_of ?sma1 ?sml1 ?smc1 ?smk1 ?smn1 (fun _ _ _ _ _ _ us hl => match us, hl with | [_, _, _], _ => rfl), CB.mdef_of ?sma2 ?sml2 ?smc2 ?smk2 ?smn2 (fun _ _ _ _ _ _ us hl => match us, hl with | [_, _], _ => rfl), CB.mdef_of ?sma3 ?sml3 ?smc3 ?smk3 ?smn3 (fun _ _ _ _ _ _ us hl => match us, hl with | [_, _], _ => rfl), CB.mdef_of ?sma4 ?sml4 ?smc4 ?smk4 ?smn4 (fun _ _ _ _ _ _ us hl => match us, hl with | [_, _], _ => rfl), CB.mdef_of ?sma5 ?sml5 ?smc5 ?smk5 ?smn5 (fun _ _ _ _ _ _ us hl => match us, hl with | [_], _ => rfl), CB.mdef_of ?sma6 ?sml6 ?smc6 ?smk6 ?smn6 (fun _ _ _ _ _ _ us hl => match us, hl with | [_], _ => rfl), CB.mdef_of ?sma7 ?sml7 ?smc7 ?smk7 ?smn7 (fun _ _ _ _ _ _ us hl => match us, hl with | [_], _ => rfl)⟩
      (case stnm => k_is)
      (case stpg => k_is)
      (case stic => k_is)
      (case stpo => k_is)
      (case stsa => k_is)
      (case stmk => k_is)
      (case stkp => k_is)
      (case stf0 => k_is)
      (case stg0 => k_is)
      (case stk0 => k_is)
      (case sty0 => k_is)
      (case sti0 => k_is)
      (case stf1 => k_is)
      (case stg1 => k_is)
      (case stk1 => k_is)
      (case sty1 => k_is)
      (case sti1 => k_is)
      (case stf2 => k_is)
      (case stg2 => k_is)
      (case stk2 => k_is)
      (case sty2 => k_is)
      (case sti2 => k_is)
      (case stf3 => k_is)
      (case stg3 => k_is)
      (case stk3 => k_is)
      (case sty3 => k_is)
      (case sti3 => k_is)
      (case sma0 => k_is)
      (case sml0 => k_is)
      (case smc0 => k_is)
      (case smk0 => k_is)
      (case smn0 => k_is)
      (case sma1 => k_is)
      (case sml1 => k_is)
      (case smc1 => k_is)
      (case smk1 => k_is)
      (case smn1 => k_is)
      (case sma2 => k_is)
      (case sml2 => k_is)
      (case smc2 => k_is)
      (case smk2 => k_is)
      (case smn2 => k_is)
      (case sma3 => k_is)
      (case sml3 => k_is)
      (case smc3 => k_is)
      (case smk3 => k_is)
      (case smn3 => k_is)
      (case sma4 => k_is)
      (case sml4 => k_is)
      (case smc4 => k_is)
      (case smk4 => k_is)
      (case smn4 => k_is)
      (case sma5 => k_is)
      (case sml5 => k_is)
      (case smc5 => k_is)
      (case smk5 => k_is)
      (case smn5 => k_is)
      (case sma6 => k_is)
      (case sml6 => k_is)
      (case smc6 => k_is)
      (case smk6 => k_is)
      (case smn6 => k_is)
      (case sma7 => k_is)
      (case sml7 => k_is)
      (case smc7 => k_is)
      (case smk7 => k_is)
      (case smn7 => k_is)
    obtain ⟨C, p0, p1, p2, p3, SC, MD_init, MD_put, MD_first_of, MD_take, MD_drop, MD_there, MD_rows, MD_amounts⟩ := S
    have L : ∃ f fd, L2.Fun (CB.fragOf KX) "law" "law" CB.s_law f fd ∧ mg "law" = some (.ref f) ∧ ∀ (s : Shared) (u : Value), BindsTo s fd ⟨[u], []⟩ [("_law_script", u)] := by
      dsimp only [CB.fragOf]
      refine' ⟨_, _, L2.fun_mk ?ll ?lc ?lk, PySem.W.mg_of KX G ?la, fun s u => .of_eq rfl⟩
      (case la => k_is); (case ll => k_is); (case lc => k_is); (case lk => k_is)
    obtain ⟨f, fd, D_law, gl, bl⟩ := L
    cases (show some (Value.ref fa) = some (.ref f) from hmg.symm.trans gl)
    exact ⟨fd, bl, fun base _ _ => CB.all_of (P := PySem.Challenge.rw_calledbest_k06_whole_logs_played.prog) (w := w) (base := base) B M SC D_law_take D_law_one D_law_mixed D_law_bag D_is_name D_is_tuple_of D_are_names D_in_order D_is_part D_is_house D_is_set D_is_kind D_is_call MD_init MD_put MD_first_of MD_take MD_drop MD_there MD_rows MD_amounts D_do_row D_store_behind D_told_by D_taken_by D_there_at D_amounts_at D_served_at D_law_alike D_law_row_done D_law_played D_law_log_pairs D_law_put_indexes D_law_thing_names D_law_log_of D_law_stretch D_law_plain_log D_law_log D_law_any_calls D_law_bent_call D_law_paths D_law_forks D_law_named D_law_house D_law_is_giving D_law_is_played_right D_law_is_store_led D_law⟩
