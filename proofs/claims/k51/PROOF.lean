import PyProof.Rows.All
import Wide.All
import OpenK.AllK
import Wide.FinOn
import HandS.CallSlots
import HandS.Conv
import HandS.Deep
import HandS.Defaults
import HandS.EndBits
import HandS.FStrTup
import HandS.ForExc
import HandS.ForMost
import HandS.IsInst
import HandS.Property
import HandS.RaiseMore
import HandS.Star
import HandS.Style
import HandS.TupAny
import HandS.Wide
import HandS.WideBits
import PySem.Challenge.RW_runroots_k51_whole_pairs_of_doubling_row
set_option Elab.async false
set_option linter.all false
set_option maxRecDepth 100000
set_option maxHeartbeats 4000000
namespace MP
open PySem L2 PySem.Spec PyProof.Rows

/-! ### defs that are called while no repr is under way -/
/-- room for k calls, no repr is under way -/
structure Rm (k : Nat) (A : Around) : Prop where
  r : Room k A
  g : A.guards = some []
theorem Rm.mono {j k : Nat} {A : Around} (r : Rm k A) (h : j ≤ k) : Rm j A := ⟨r.r.mono h, r.g⟩
theorem Rm.deeper {k : Nat} {A : Around} (r : Rm (k + 1) A) (env : Env) : Rm k (A.deeper env) := ⟨r.r.deeper env, r.g⟩
theorem Rm.make {k : Nat} {A : Around} (r : Rm (k + 1) A) (C : Addr) (us : List Value) (kw : List (Str × Value)) : Rm k (A.under (.builtin "type.__call__" ⟨.ref C :: us, kw⟩)) :=
  ⟨r.r.make C us kw, by
    have e : (Code.builtin "type.__call__" ⟨.ref C :: us, kw⟩).isGuard = false := by
      show guardIds.contains "type.__call__" = false
      decide +kernel
    have hg := r.g
    simp [Around.under, Code.guards, e, pushGuards, hg]⟩
/-- a def's promise -/
structure FnG (P : Program) (w : World) (K : PySem.W.Frag) (mg : Str → Option Value) (base : Heap) (k : Nat) (f : Addr) (fd : FuncData) (ps : List Str) (sp : Sp) : Prop where
  len : ∀ vs H Q E, sp vs H Q E → vs.length = ps.length
  run : ∀ (A : Around) (outer : List Env) (s : Shared) (H : Hp) (args : Args) (us : List Value) (vs : List V) (Q : VK) (E : XK), Rm k A → Env0 P w K mg base A outer s H → BindsTo s fd args (ps.zip us) → Vals vs us → sp vs H Q E →
    codeAny (model P w) A (.call (.ref f) args) (CR (L2.CX P w) outer P w H s Q E) s
theorem FnG.mono {P : Program} {w : World} {K : PySem.W.Frag} {mg : Str → Option Value} {base : Heap} {j k : Nat} {f : Addr} {fd : FuncData} {ps : List Str} {sp : Sp} (F : FnG P w K mg base j f fd ps sp) (h : j ≤ k) : FnG P w K mg base k f fd ps sp :=
  ⟨F.len, fun A outer s H args us vs Q E hr => F.run A outer s H args us vs Q E (hr.mono h)⟩
/-- .. kept by its body -/
theorem fn_g {P : Program} {w : World} {K : PySem.W.Frag} {mg : Str → Option Value} {base : Heap} {k : Nat} {f : Addr} {x qual : Str} {st : Stmt} {fd : FuncData} {N ps : List Str} {sp : Sp} (F : Fun K x qual st f fd) (S : FnScope N ps (defScope st))
    (len : ∀ vs H Q E, sp vs H Q E → vs.length = ps.length)
    (hbody : ∀ (cdv : Value) (A : Around) (outer : List Env) (s : Shared) (H : Hp) (vs : List V) (Q : VK) (E : XK), Rm k (A.deeper (envOfC qual (defScope st) s.heap.objs.size f cdv)) → sp vs H Q E →
      ∃ t, PSs (cxOf (L2.CX P w) P w K mg base N qual (defScope st) f cdv A outer s H E) (defBody st) t ∧ t { nx := fun _ H' => Q .non H', rt := Q } (start N vs) H) :
    FnG P w K mg base (k + 1) f fd ps sp := by
  obtain ⟨oc, od, kV, doc, pm, an, cdv, ct, osl, rfl, lk, hcd⟩ := F.ex
  refine ⟨len, fun A outer s H args us vs Q E hr e0 hb rv hsp => ?_⟩
  have hl := len _ _ _ _ hsp
  have keep : ∀ b o, base.get? b = some o → s.heap.get? b = some o := fun b o e => (e0.bs b o e).1
  have kin : K.In s.heap := e0.mod.kin.keeps keep
  refine codeAny_call_function hr.r.depth (kin _ _ lk) rfl S.co S.gen rfl (PySem.W.codeRec_of kin hcd) (hb _ _ _ _ ?_)
  refine wpAny_newFunctionEnv_cells S.kind (fun ⟨n, v⟩ hy => ?_) fun env he s1 x => ?_
  · exact (S.par n (List.of_mem_zip hy).1).imp id fun q => ⟨q, PySem.W.cellsFrom_some _ _ _ (.inl q)⟩
  · subst he
    refine ⟨(e0.mod.nolimit.keeps keep).keeps x.toInCall.keep, codeAny_func ?_⟩
    obtain ⟨t, ht, hq⟩ := hbody cdv A outer s H vs Q E (hr.deeper _) hsp
    have I := inv_start (CX := L2.CX P w) (E := E) (f := f) (cd := cdv) (qual := qual) S hr.r.hd e0 hl rv x
    refine wpAny_mono (ht.run [] s1 (start N vs) H _ I hq) (fun fl s' hs => ?_) fun e s' hs => hs
    cases fl with
    | ret u =>
      obtain ⟨v, σ', H', J, rv', q⟩ := hs
      exact ⟨v, H', J.os, J.bare, J.base, J.hok, rv', q⟩
    | next =>
      obtain ⟨σ', H', J, q⟩ := hs
      exact ⟨.non, H', J.os, J.bare, J.base, J.hok, rfl, q⟩
    | brk => exact hs.choose_spec.choose_spec.2.elim
    | cont => exact hs.choose_spec.choose_spec.2.elim

/-! ### its calls -/
section
variable {X : Cx} {k : Nat} {f : Addr} {fd : FuncData} {ps : List Str} {sp : Sp} {E : XK} {pins : List (Addr × Obj)} {σ : L2.St} {H : Hp} {s : Shared} {Q : VK}
theorem run_g {args : Args} {us : List Value} {vs : List V} (F : FnG X.prog X.w X.K X.mg X.base k f fd ps sp) (hr : Rm k X.A) (hx : PassesAt (L2.CX X.prog X.w) X σ E) (I : Inv X pins σ H s) (hb : BindsTo s fd args (ps.zip us)) (r : Vals vs us) (h : sp vs H Q E) :
    codeAny (model X.prog X.w) X.A (.call (.ref f) args) (fun r s' => match r with | .ok (.ret v) => EP X pins σ Q v s' | .ok _ => False | .error e => X.xe e s') s := by
  refine codeAny_mono (F.run X.A X.stack s H args us vs Q E hr I.env0 hb r h) fun r s' hq => ?_
  cases r with
  | error e => exact hx pins H s e s' I hq
  | ok fl =>
    cases fl with
    | ret u => exact I.after hq
    | next => exact False.elim hq
    | brk => exact False.elim hq
    | cont => exact False.elim hq
theorem run_gB {us : List Value} {vs : List V} (F : FnG X.prog X.w X.K X.mg X.base k f fd ps sp) (hr : Rm k X.A) (hb : Binds X.K fd ps []) (hx : PassesAt (L2.CX X.prog X.w) X σ E) (I : Inv X pins σ H s) (r : Vals vs us) (h : sp vs H Q E) :
    wpAny (model X.prog X.w) X.A (call (.ref f) us) (EP X pins σ Q) X.xe s := by
  have hl : (us ++ []).length = ps.length := by rw [List.append_nil, ← r.length]; exact F.len _ _ _ _ h
  have hb' := hb s us I.kIn hl
  rw [List.append_nil] at hb'
  exact wpAny_call (run_g F hr hx I hb' r h)
end

/-! ### the law's own call -/
theorem law_g {P : Program} {w : World} {K : PySem.W.Frag} {mg mb : Str → Option Value} {k : Nat} {fa a : Addr} {fd : FuncData} {x : Str} {sp : Sp} {s₁ : Shared} {vs : List Value} {ns : List Int}
    (KX : K.In s₁.heap) (hns : s₁.heap.Ns mainGlobals mg) (hb : s₁.heap.Ns builtinsNs mb) (hbb : ∀ x : Str, x ≠ "__name__" → mb x = bootBuiltins x) (hlim : s₁.heap.NoLimit) (hg : s₁.gens = #[])
    (ha : s₁.heap.get? a = some { cls := .type "list", data := .seq vs.toArray }) (hi : IntsAre vs ns) (hl : ns.length ≤ sizeLine) (hr : Room k callerA)
    (F : ∀ base : Heap, K.In base → base.Ns mainGlobals mg → FnG P w K mg base k fa fd [x] sp) (hbind : ∀ (s : Shared) (u : Value), BindsTo s fd ⟨[u], []⟩ [(x, u)])
    (hsp : ∀ H : Hp, Only H → SqL K H a (ns.map V.int) → sp [.ref a] H (fun v _ => v = .bl true) fun _ _ _ => False)
    (hCX : ∀ H e s', L2.CX P w [] H s₁ (fun _ _ _ => False) e s' → False) :
    codeAny (model P w) callerA (.call (.ref fa) ⟨[.ref a], []⟩) (fun r s' => r = .ok (.ret (.bool true)) ∧ OldK s₁.heap s'.heap ∧ s'.os = s₁.os ∧ AllBare s'.gens) s₁ := by
  have rvs := vals_ints hi
  have lenV := hi.length
  have core : ∀ H : Hp, Only H → SqL K H a (ns.map V.int) → HOk P w H s₁.heap → (∀ b, H b ≠ none → b = a) → (H a ≠ none → K.lookup a = none) →
      codeAny (model P w) callerA (.call (.ref fa) ⟨[.ref a], []⟩) (fun r s' => r = .ok (.ret (.bool true)) ∧ OldK s₁.heap s'.heap ∧ s'.os = s₁.os ∧ AllBare s'.gens) s₁ := by
    intro H hO hS hok hA hK
    have noA : ∀ {b : Addr} {o : Obj} {es : Array DictEntry} {ep : Nat}, s₁.heap.get? b = some o → o.data = .dict es ep → H b = none := fun {b o es ep} e d => by
      by_cases q : H b = none
      · exact q
      · have e' := hA b q
        subst e'
        rw [ha] at e
        cases e
        cases (show Data.seq vs.toArray _ = Data.dict es ep from d)
    have nsK : ∀ {b : Addr} {m : Str → Option Value}, s₁.heap.Ns b m → (hidT s₁.heap H).Ns b m := fun {b m} ⟨o, es, ep, e, d, r⟩ => ⟨o, es, ep, hidT_get e (noA e d), d, r⟩
    have hKb : K.In (hidT s₁.heap H) := fun b o e => hidT_get (KX b o e) (by
      by_cases q : H b = none
      · exact q
      · have e' := hA b q
        subst e'
        rw [hK q] at e
        cases e)
    have hM : Mod K mg (hidT s₁.heap H) := ⟨hKb, nsK hns, ⟨mb, nsK hb, hbb⟩, let ⟨mc, h1, h2⟩ := hlim; ⟨mc, nsK h1, h2⟩⟩
    have e0 : Env0 P w K mg (hidT s₁.heap H) callerA [] s₁ H := ⟨rfl, hM, fun b o e => of_hidT e, Nat.le_of_eq (hidT_size _ _), trivial, fun b hb => absurd (show b ∈ ([] : List Addr) from hb) (by simp), hok, .of_eq hg⟩
    refine codeAny_mono ((F _ hKb (nsK hns)).run callerA [] s₁ H ⟨[.ref a], []⟩ [.ref a] [.ref a] _ _ ⟨hr, rfl⟩ e0 (hbind s₁ (.ref a)) (.cons rfl .nil) (hsp H hO hS)) fun r s' h => ?_
    cases r with
    | error e => exact (hCX H e s' h).elim
    | ok fl =>
      cases fl with
      | next => exact False.elim h
      | brk => exact False.elim h
      | cont => exact False.elim h
      | ret u =>
        obtain ⟨v, H', os, bare, un, hok', r', q⟩ := h
        have q' : v = .bl true := q
        subst q'
        obtain rfl : u = Value.bool true := r'
        refine ⟨rfl, OldK.of_keep fun b o e => ?_, os, bare⟩
        rcases hO b with z | ⟨ob, xs, z⟩
        · exact un.keep b o e z (by intro z; exact absurd (show b ∈ ([] : List Addr) from z) (by simp)) (by simp)
        · obtain ⟨e1, _⟩ := hok b _ z
          obtain ⟨e2, _⟩ := hok' b _ (un.frzs b ob _ z)
          rw [e] at e1
          cases e1
          exact e2
  by_cases hk : K.lookup a = none
  · refine core (fun b => if b = a then some (.frz { cls := .type "list", data := .seq vs.toArray } (.lst (ns.map V.int))) else none) (fun b => ?_) (.inl (.inr ⟨{ cls := .type "list", data := .seq vs.toArray }, if_pos rfl⟩)) (fun b u z => ?_) (fun b z => ?_) fun _ => hk
    · by_cases hb : b = a
      · exact .inr ⟨_, _, if_pos hb⟩
      · exact .inl (if_neg hb)
    · by_cases hb : b = a
      · cases (if_pos hb).symm.trans z
        subst hb
        exact ⟨ha, by rw [List.length_map]; exact hl, vs, _, rvs, ha⟩
      · cases (if_neg hb).symm.trans z
    · by_cases hb : b = a
      · exact hb
      · exact absurd (if_neg hb) z
  · obtain ⟨o, hk⟩ := Option.ne_none_iff_exists'.mp hk
    have e := KX a o hk
    rw [ha] at e
    cases e
    exact core (fun _ => none) (fun _ => .inl rfl) (.inr ⟨_, vs.toArray, _, hk, rfl, rfl, rfl, by rw [List.size_toArray, lenV]; exact hl, by simpa using rvs⟩) (fun b u z => nomatch z) (fun b z => absurd rfl z) fun z => absurd rfl z
theorem walk_g {l : PySem.W.OpenLaw} {n k : Nat} {q : Program} {loose : List Str} {XP : (Str → Option Value) → Heap → Prop} {YP : World → Heap → Prop} {d : DefRec} {K : Params → PySem.W.Frag} {sp : World → Sp} {x : Str}
    (hn : l.most = some n) (hn2 : n ≤ sizeLine) (hdf : d.params.defaults = []) (hr : Room k callerA)
    (hY : ∀ (w : World) (h : Heap), YP w h → (K w.params).In h)
    (F : ∀ (w : World) (mg : Str → Option Value) (fa : Addr) (h : Heap), (K w.params).In h → h.Ns mainGlobals mg → mg d.name = some (.ref fa) →
      ∃ fd : FuncData, (∀ (s : Shared) (u : Value), BindsTo s fd ⟨[u], []⟩ [(x, u)]) ∧
        ∀ base : Heap, (K w.params).In base → base.Ns mainGlobals mg → FnG l.prog w (K w.params) mg base k fa fd [x] (sp w))
    (hsp : ∀ (w : World) (H : Hp) (a : Addr) (ns : List Int), ns.length ≤ n → (∀ z ∈ ns, Builtin.Int.intBits z ≤ 1048576) → Only H → SqL (K w.params) H a (ns.map V.int) → sp w [.ref a] H (fun v _ => v = .bl true) fun _ _ _ => False) :
    PySem.W.WalkO q loose XP YP l.row.toRowW d [] (fun f vs => PySem.call f vs) := by
  refine Att.attach_callB hn hdf fun w s₀ s₁ mg mb fa o pm cd doc a vs ns G Y ho hd hcd hmg hobj hints hlen hbits hg => ?_
  obtain ⟨fd, hb, hF⟩ := F w mg fa _ (hY w _ Y) G.T.g hmg
  refine law_g (hY w _ Y) G.T.g G.T.b G.T.builtins G.T.nolimit hg hobj hints (Nat.le_trans hlen hn2) hr hF hb (fun H hO hS => hsp w H a ns hlen hbits hO hS) fun H e s' h => ?_
  obtain ⟨_, _, _, _, _, _, _, _, _, _, _, _, z⟩ := h
  exact z
end MP

namespace MP
open PySem L2

/-! ### data, store, results -/
/-- a value: data by value; `rl` a list that is only read (the script); `ref` a place in the store -/
inductive D where
  | non | bl (b : Bool) | int (i : Int) | str (x : Str) | tup (xs : List D) | rl (xs : List D) | ref (n : Nat)
  deriving Inhabited
/-- what stands at a place of the store -/
inductive MO where
  | lst (xs : List D)
  | dct (kvs : List (Key × D))
  | ins (cls : Str) (fs : List (Str × D))
  deriving Inhabited
abbrev Store := List MO
inductive R (α : Type) where
  | ok (a : α) (S : Store)
  | exc (c : Str) (d : D) (S : Store)
  | fail
def R.bind {α β : Type} : R α → (α → Store → R β) → R β
  | .ok a S, f => f a S
  | .exc c d S, _ => .exc c d S
  | .fail, _ => .fail
@[simp] theorem R.bind_ok {α β : Type} (a : α) (S : Store) (f : α → Store → R β) : (R.ok a S).bind f = f a S := rfl
@[simp] theorem R.bind_exc {α β : Type} (c : Str) (d : D) (S : Store) (f : α → Store → R β) : (R.exc c d S).bind f = .exc c d S := rfl
@[simp] theorem R.bind_fail {α β : Type} (f : α → Store → R β) : (R.fail : R α).bind f = .fail := rfl
theorem R.bind_assoc {α β γ : Type} (r : R α) (f : α → Store → R β) (g : β → Store → R γ) : (r.bind f).bind g = r.bind fun a S => (f a S).bind g := by
  cases r <;> rfl
abbrev Rho := List (Option D)
/-- an expression's meaning, an argument list's -/
abbrev FE := Rho → Store → R D
abbrev FA := Rho → Store → R (List D)
inductive Fl where
  | nx (ρ : Rho) | rt (d : D) | bk (ρ : Rho) | ct (ρ : Rho) | xc (c : Str) (d : D) (ρ : Rho)
/-- a statement's -/
abbrev FS := Rho → Store → R Fl

/-! ### what a value stands for -/
section
variable (K : PySem.W.Frag) (μ : Nat → Addr) (H : Hp) (N : Nat)
/-- a list that is not changed by anyone -/
def SqR (a : Addr) (vs : List V) : Prop := (∃ o, H a = some (.frz o (.lst vs))) ∨
    ∃ (o : Obj) (its : Array Value) (n : Nat), K.lookup a = some o ∧ o.cls = .type "list" ∧ o.dict = none ∧ o.data = .seq its n ∧ its.size ≤ sizeLine ∧ Vals vs its.toList
mutual
def RepV : D → V → Prop
  | .non, v => v = .non
  | .bl b, v => v = .bl b
  | .int i, v => v = .int i
  | .str x, v => v = .str x
  | .tup xs, v => ∃ a vs, v = .ref a ∧ SqT K H a vs ∧ RepVs xs vs
  | .rl xs, v => ∃ a vs, v = .ref a ∧ SqR K H a vs ∧ RepVs xs vs
  | .ref n, v => n < N ∧ v = .ref (μ n)
def RepVs : List D → List V → Prop
  | [], vs => vs = []
  | x :: xs, vs => ∃ v r, vs = v :: r ∧ RepV x v ∧ RepVs xs r
end
def RepF : List (Str × D) → List (Str × V) → Prop
  | [], vs => vs = []
  | (f, d) :: r, vs => ∃ v q, vs = (f, v) :: q ∧ RepV K μ H N d v ∧ RepF r q
def RepK : List (Key × D) → List (Key × V) → Prop
  | [], vs => vs = []
  | (k, d) :: r, vs => ∃ v q, vs = (k, v) :: q ∧ RepV K μ H N d v ∧ RepK r q
/-- the object at a -/
def RepO (mg : Str → Option Value) (a : Addr) : MO → Prop
  | .lst xs => ∃ vs, H a = some (.lst vs) ∧ RepVs K μ H N xs vs
  | .dct kvs => ∃ vs, H a = some (.dK vs) ∧ RepK K μ H N kvs vs
  | .ins c fs => ∃ C dx vs, H a = some (.ins C dx vs) ∧ mg c = some (.ref C) ∧ RepF K μ H N fs vs
end
/-- the store is held -/
structure Rep (K : PySem.W.Frag) (mg : Str → Option Value) (μ : Nat → Addr) (S : Store) (H : Hp) : Prop where
  inj : ∀ i j, i < S.length → j < S.length → μ i = μ j → i = j
  obj : ∀ i o, S[i]? = some o → RepO K μ H S.length mg (μ i) o
/-- the frame's slots -/
structure REnv (K : PySem.W.Frag) (μ : Nat → Addr) (H : Hp) (N : Nat) (ρ : Rho) (σ : St) : Prop where
  len : ρ.length = σ.length
  at_ : ∀ (i : Nat) (d : D), ρ[i]? = some (some d) → ∃ v, σ[i]? = some (some v) ∧ RepV K μ H N d v
/-- what stands behind a run -/
structure After (K : PySem.W.Frag) (mg : Str → Option Value) (μ : Nat → Addr) (S : Store) (H : Hp) (μ' : Nat → Addr) (S' : Store) (H' : Hp) : Prop where
  rep : Rep K mg μ' S' H'
  agree : ∀ i, i < S.length → μ' i = μ i
  le : S.length ≤ S'.length
  frame : ∀ a o, H a = some o → (∀ i, i < S.length → μ i ≠ a) → H' a = some o ∧ ∀ i, i < S'.length → μ' i ≠ a

section
variable {K : PySem.W.Frag} {mg : Str → Option Value} {μ μ' μ1 μ2 : Nat → Addr} {H H' H1 H2 : Hp} {S S' S1 S2 : Store} {N N' : Nat}
mutual
theorem RepV.mono (hN : N ≤ N') (hμ : ∀ i, i < N → μ' i = μ i) (hT : ∀ a vs, SqT K H a vs → SqT K H' a vs) (hR : ∀ a vs, SqR K H a vs → SqR K H' a vs) : ∀ {d : D} {v : V}, RepV K μ H N d v → RepV K μ' H' N' d v
  | .non, _, h => h
  | .bl _, _, h => h
  | .int _, _, h => h
  | .str _, _, h => h
  | .tup xs, _, ⟨a, vs, e, h1, h2⟩ => ⟨a, vs, e, hT a vs h1, RepVs.mono hN hμ hT hR h2⟩
  | .rl xs, _, ⟨a, vs, e, h1, h2⟩ => ⟨a, vs, e, hR a vs h1, RepVs.mono hN hμ hT hR h2⟩
  | .ref n, _, ⟨h1, h2⟩ => ⟨Nat.lt_of_lt_of_le h1 hN, by rw [hμ n h1]; exact h2⟩
theorem RepVs.mono (hN : N ≤ N') (hμ : ∀ i, i < N → μ' i = μ i) (hT : ∀ a vs, SqT K H a vs → SqT K H' a vs) (hR : ∀ a vs, SqR K H a vs → SqR K H' a vs) : ∀ {d : List D} {v : List V}, RepVs K μ H N d v → RepVs K μ' H' N' d v
  | [], _, h => h
  | x :: xs, _, ⟨v, r, e, h1, h2⟩ => ⟨v, r, e, RepV.mono hN hμ hT hR h1, RepVs.mono hN hμ hT hR h2⟩
end
theorem RepF.mono (hN : N ≤ N') (hμ : ∀ i, i < N → μ' i = μ i) (hT : ∀ a vs, SqT K H a vs → SqT K H' a vs) (hR : ∀ a vs, SqR K H a vs → SqR K H' a vs) : ∀ {d : List (Str × D)} {v : List (Str × V)}, RepF K μ H N d v → RepF K μ' H' N' d v
  | [], _, h => h
  | (f, x) :: xs, _, ⟨v, r, e, h1, h2⟩ => ⟨v, r, e, RepV.mono hN hμ hT hR h1, RepF.mono hN hμ hT hR h2⟩
theorem RepK.mono (hN : N ≤ N') (hμ : ∀ i, i < N → μ' i = μ i) (hT : ∀ a vs, SqT K H a vs → SqT K H' a vs) (hR : ∀ a vs, SqR K H a vs → SqR K H' a vs) : ∀ {d : List (Key × D)} {v : List (Key × V)}, RepK K μ H N d v → RepK K μ' H' N' d v
  | [], _, h => h
  | (f, x) :: xs, _, ⟨v, r, e, h1, h2⟩ => ⟨v, r, e, RepV.mono hN hμ hT hR h1, RepK.mono hN hμ hT hR h2⟩
theorem RepVs.length : ∀ {d : List D} {v : List V}, RepVs K μ H N d v → d.length = v.length
  | [], _, h => by cases h; rfl
  | x :: xs, _, ⟨v, r, e, h1, h2⟩ => by subst e; simp [RepVs.length h2]
theorem RepVs.get : ∀ {d : List D} {v : List V} {i : Nat} {x : D}, RepVs K μ H N d v → d[i]? = some x → ∃ y, v[i]? = some y ∧ RepV K μ H N x y
  | [], _, i, x, _, e => by simp at e
  | z :: xs, _, 0, x, ⟨v, r, e, h1, h2⟩, q => by
    subst e
    simp at q
    subst q
    exact ⟨v, rfl, h1⟩
  | z :: xs, _, i + 1, x, ⟨v, r, e, h1, h2⟩, q => by
    subst e
    obtain ⟨y, a, b⟩ := RepVs.get (i := i) h2 (by simpa using q)
    exact ⟨y, by simpa using a, b⟩
theorem RepVs.append : ∀ {d e : List D} {v w : List V}, RepVs K μ H N d v → RepVs K μ H N e w → RepVs K μ H N (d ++ e) (v ++ w)
  | [], _, _, _, h, q => by cases h; exact q
  | x :: xs, _, _, _, ⟨v, r, e, h1, h2⟩, q => by
    subst e
    exact ⟨v, _, rfl, h1, RepVs.append h2 q⟩
theorem RepVs.one {d : D} {v : V} (h : RepV K μ H N d v) : RepVs K μ H N [d] [v] := ⟨v, [], rfl, h, rfl⟩
theorem RepVs.set : ∀ {d : List D} {v : List V} {x : D} {y : V} (i : Nat), RepVs K μ H N d v → RepV K μ H N x y → RepVs K μ H N (d.set i x) (v.set i y)
  | [], _, _, _, _, h, _ => by cases h; exact rfl
  | z :: xs, _, _, _, 0, ⟨v, r, e, h1, h2⟩, q => by subst e; exact ⟨_, r, rfl, q, h2⟩
  | z :: xs, _, _, _, i + 1, ⟨v, r, e, h1, h2⟩, q => by subst e; exact ⟨_, _, rfl, h1, RepVs.set i h2 q⟩
theorem RepVs.take : ∀ {d : List D} {v : List V} (i : Nat), RepVs K μ H N d v → RepVs K μ H N (d.take i) (v.take i)
  | _, _, 0, _ => rfl
  | [], _, i + 1, h => by cases h; exact rfl
  | z :: xs, _, i + 1, ⟨v, r, e, h1, h2⟩ => by subst e; exact ⟨_, _, rfl, h1, RepVs.take i h2⟩
theorem RepVs.drop : ∀ {d : List D} {v : List V} (i : Nat), RepVs K μ H N d v → RepVs K μ H N (d.drop i) (v.drop i)
  | _, _, 0, h => h
  | [], _, i + 1, h => by cases h; exact rfl
  | z :: xs, _, i + 1, ⟨v, r, e, h1, h2⟩ => by subst e; exact RepVs.drop i h2
theorem RepVs.eraseIdx : ∀ {d : List D} {v : List V} (i : Nat), RepVs K μ H N d v → RepVs K μ H N (d.eraseIdx i) (v.eraseIdx i)
  | [], _, _, h => by cases h; exact rfl
  | z :: xs, _, 0, ⟨v, r, e, h1, h2⟩ => by subst e; exact h2
  | z :: xs, _, i + 1, ⟨v, r, e, h1, h2⟩ => by subst e; exact ⟨_, _, rfl, h1, RepVs.eraseIdx i h2⟩
theorem RepVs.reverse : ∀ {d : List D} {v : List V}, RepVs K μ H N d v → RepVs K μ H N d.reverse v.reverse
  | [], _, h => by cases h; exact rfl
  | z :: xs, _, ⟨v, r, e, h1, h2⟩ => by
    subst e
    rw [List.reverse_cons, List.reverse_cons]
    exact RepVs.append (RepVs.reverse h2) (RepVs.one h1)
theorem RepF.lookup : ∀ {d : List (Str × D)} {v : List (Str × V)} {f : Str} {x : D}, RepF K μ H N d v → d.lookup f = some x → ∃ y, v.lookup f = some y ∧ RepV K μ H N x y
  | [], _, _, _, _, e => by simp at e
  | (g, z) :: r, _, f, x, ⟨v, q, e, h1, h2⟩, h => by
    subst e
    rw [List.lookup_cons] at h ⊢
    cases b : f == g with
    | true => rw [b] at h; cases h; exact ⟨v, rfl, h1⟩
    | false => rw [b] at h; exact RepF.lookup h2 h
theorem RepF.lookup_none : ∀ {d : List (Str × D)} {v : List (Str × V)} {f : Str}, RepF K μ H N d v → d.lookup f = none → v.lookup f = none
  | [], _, _, h, _ => by cases h; rfl
  | (g, z) :: r, _, f, ⟨v, q, e, h1, h2⟩, h => by
    subst e
    rw [List.lookup_cons] at h ⊢
    cases b : f == g with
    | true => rw [b] at h; cases h
    | false => rw [b] at h; exact RepF.lookup_none h2 h
theorem RepF.length : ∀ {d : List (Str × D)} {v : List (Str × V)}, RepF K μ H N d v → d.length = v.length
  | [], _, h => by cases h; rfl
  | (g, z) :: r, _, ⟨v, q, e, h1, h2⟩ => by subst e; simp [RepF.length h2]
/-- a field stored -/
def putD (f : Str) (d : D) : List (Str × D) → List (Str × D)
  | [] => [(f, d)]
  | (g, x) :: r => if g = f then (g, d) :: r else (g, x) :: putD f d r
theorem RepF.put : ∀ {d : List (Str × D)} {v : List (Str × V)} {f : Str} {x : D} {y : V}, RepF K μ H N d v → RepV K μ H N x y → RepF K μ H N (putD f x d) (putF f y v)
  | [], _, _, _, y, h, q => by cases h; exact ⟨y, [], rfl, q, rfl⟩
  | (g, z) :: r, _, f, x, y, ⟨v, u, e, h1, h2⟩, q => by
    subst e
    unfold putD putF
    by_cases c : g = f
    · rw [if_pos c, if_pos c]; exact ⟨y, u, rfl, q, h2⟩
    · rw [if_neg c, if_neg c]; exact ⟨v, _, rfl, h1, RepF.put h2 q⟩
theorem RepVs.nil : RepVs K μ H N [] [] := rfl
/-- no place of the store is a tuple's -/
theorem Rep.notTup (r : Rep K mg μ S H) {i : Nat} (hi : i < S.length) : ∃ o, H (μ i) = some o ∧ (∀ xs, o ≠ .tup xs) ∧ (∀ ob u, o ≠ .frz ob u) := by
  obtain ⟨o, ho⟩ : ∃ o, S[i]? = some o := ⟨S[i], by simp [hi]⟩
  have q := r.obj i o ho
  cases o with
  | lst xs => obtain ⟨vs, e, _⟩ := q; exact ⟨_, e, fun _ z => (nomatch z), fun _ _ z => (nomatch z)⟩
  | dct xs => obtain ⟨vs, e, _⟩ := q; exact ⟨_, e, fun _ z => (nomatch z), fun _ _ z => (nomatch z)⟩
  | ins c fs => obtain ⟨C, dx, vs, e, _⟩ := q; exact ⟨_, e, fun _ z => (nomatch z), fun _ _ z => (nomatch z)⟩
theorem Rep.offTup (r : Rep K mg μ S H) {a : Addr} {xs : List V} (h : H a = some (.tup xs)) : ∀ i, i < S.length → μ i ≠ a := fun i hi e => by
  obtain ⟨o, q, n, _⟩ := r.notTup hi
  rw [e, h] at q
  cases q
  exact n _ rfl
theorem Rep.offFrz (r : Rep K mg μ S H) {a : Addr} {o : Obj} {u : HO} (h : H a = some (.frz o u)) : ∀ i, i < S.length → μ i ≠ a := fun i hi e => by
  obtain ⟨o, q, _, n⟩ := r.notTup hi
  rw [e, h] at q
  cases q
  exact n _ _ rfl
theorem Rep.ne_free (r : Rep K mg μ S H) {a : Addr} (h : H a = none) : ∀ i, i < S.length → μ i ≠ a := fun i hi e => by
  obtain ⟨o, q, _⟩ := r.notTup hi
  rw [e, h] at q
  cases q
theorem After.sqT (f : After K mg μ S H μ' S' H') (r : Rep K mg μ S H) {a : Addr} {vs : List V} (h : SqT K H a vs) : SqT K H' a vs := by
  rcases h with (h | ⟨o, h⟩) | h
  · exact .inl (.inl (f.frame a _ h (r.offTup h)).1)
  · exact .inl (.inr ⟨o, (f.frame a _ h (r.offFrz h)).1⟩)
  · exact .inr h
theorem After.sqR (f : After K mg μ S H μ' S' H') (r : Rep K mg μ S H) {a : Addr} {vs : List V} (h : SqR K H a vs) : SqR K H' a vs := by
  rcases h with ⟨o, h⟩ | h
  · exact .inl ⟨o, (f.frame a _ h (r.offFrz h)).1⟩
  · exact .inr h
theorem After.val (f : After K mg μ S H μ' S' H') (r : Rep K mg μ S H) {d : D} {v : V} (h : RepV K μ H S.length d v) : RepV K μ' H' S'.length d v :=
  h.mono f.le f.agree (fun _ _ => f.sqT r) (fun _ _ => f.sqR r)
theorem After.vals (f : After K mg μ S H μ' S' H') (r : Rep K mg μ S H) {d : List D} {v : List V} (h : RepVs K μ H S.length d v) : RepVs K μ' H' S'.length d v :=
  h.mono f.le f.agree (fun _ _ => f.sqT r) (fun _ _ => f.sqR r)
theorem After.env (f : After K mg μ S H μ' S' H') (r : Rep K mg μ S H) {ρ : Rho} {σ : St} (h : REnv K μ H S.length ρ σ) : REnv K μ' H' S'.length ρ σ :=
  ⟨h.len, fun i d e => let ⟨v, a, b⟩ := h.at_ i d e; ⟨v, a, f.val r b⟩⟩
theorem After.refl (r : Rep K mg μ S H) : After K mg μ S H μ S H := ⟨r, fun _ _ => rfl, Nat.le_refl _, fun _ _ h n => ⟨h, n⟩⟩
theorem After.trans (f : After K mg μ S H μ1 S1 H1) (g : After K mg μ1 S1 H1 μ2 S2 H2) : After K mg μ S H μ2 S2 H2 where
  rep := g.rep
  agree := fun i hi => (g.agree i (Nat.lt_of_lt_of_le hi f.le)).trans (f.agree i hi)
  le := Nat.le_trans f.le g.le
  frame := fun a o h n => let ⟨x, y⟩ := f.frame a o h n; g.frame a o x y

/-! ### steps of the heap -/
/-- a new thing that the store doesn't hold (a tuple) -/
theorem RepO.mono {a : Addr} {o : MO} (h : RepO K μ H N mg a o) (hH : ∀ u, H a = some u → H' a = some u) (hN : N ≤ N') (hμ : ∀ i, i < N → μ' i = μ i) (hT : ∀ a vs, SqT K H a vs → SqT K H' a vs) (hR : ∀ a vs, SqR K H a vs → SqR K H' a vs) :
    RepO K μ' H' N' mg a o := by
  cases o with
  | lst xs => obtain ⟨vs, e, q⟩ := h; exact ⟨vs, hH _ e, q.mono hN hμ hT hR⟩
  | dct xs => obtain ⟨vs, e, q⟩ := h; exact ⟨vs, hH _ e, q.mono hN hμ hT hR⟩
  | ins c fs => obtain ⟨C, dx, vs, e, m, q⟩ := h; exact ⟨C, dx, vs, hH _ e, m, q.mono hN hμ hT hR⟩
theorem sqT_upd {p : Addr} {u : HO} (hp : H p = none) {a : Addr} {vs : List V} (h : SqT K H a vs) : SqT K (upd H p u) a vs := by
  rcases h with (h | ⟨o, h⟩) | h
  · exact .inl (.inl (by rw [upd_ne (ne_of_none h hp)]; exact h))
  · exact .inl (.inr ⟨o, by rw [upd_ne (ne_of_none h hp)]; exact h⟩)
  · exact .inr h
theorem sqR_upd {p : Addr} {u : HO} (hp : H p = none) {a : Addr} {vs : List V} (h : SqR K H a vs) : SqR K (upd H p u) a vs := by
  rcases h with ⟨o, h⟩ | h
  · exact .inl ⟨o, by rw [upd_ne (ne_of_none h hp)]; exact h⟩
  · exact .inr h
theorem After.tmp (r : Rep K mg μ S H) {p : Addr} {u : HO} (hp : H p = none) : After K mg μ S H μ S (upd H p u) where
  rep := ⟨r.inj, fun i o e => (r.obj i o e).mono (fun v h => by rw [upd_ne (ne_of_none h hp)]; exact h) (Nat.le_refl _) (fun _ _ => rfl) (fun _ _ => sqT_upd hp) (fun _ _ => sqR_upd hp)⟩
  agree := fun _ _ => rfl
  le := Nat.le_refl _
  frame := fun a o h n => ⟨by rw [upd_ne (ne_of_none h hp)]; exact h, n⟩
theorem RepV.newTup (r : Rep K mg μ S H) {p : Addr} {xs : List D} {vs : List V} (hp : H p = none) (h : RepVs K μ H S.length xs vs) : RepV K μ (upd H p (.tup vs)) S.length (.tup xs) (.ref p) :=
  ⟨p, vs, rfl, .inl (.inl upd_same), h.mono (Nat.le_refl _) (fun _ _ => rfl) (fun _ _ => sqT_upd hp) (fun _ _ => sqR_upd hp)⟩
/-- the place of a new object -/
def ext (μ : Nat → Addr) (n : Nat) (p : Addr) : Nat → Addr := fun i => if i = n then p else μ i
theorem ext_same {n : Nat} {p : Addr} : ext μ n p n = p := if_pos rfl
theorem ext_lt {n i : Nat} {p : Addr} (h : i < n) : ext μ n p i = μ i := if_neg (Nat.ne_of_lt h)
/-- a new object of the store -/
theorem After.new (r : Rep K mg μ S H) {p : Addr} {u : HO} {o : MO} (hp : H p = none) (ho : RepO K (ext μ S.length p) (upd H p u) (S.length + 1) mg p o) : After K mg μ S H (ext μ S.length p) (S ++ [o]) (upd H p u) where
  rep := by
    have hl : (S ++ [o]).length = S.length + 1 := by simp
    refine ⟨fun i j hi hj e => ?_, fun i ob e => ?_⟩
    · rw [hl] at hi hj
      by_cases h1 : i = S.length <;> by_cases h2 : j = S.length
      · rw [h1, h2]
      · rw [h1, ext_same, ext_lt (by omega)] at e
        exact absurd e.symm (r.ne_free hp j (by omega))
      · rw [h2, ext_same, ext_lt (by omega)] at e
        exact absurd e (r.ne_free hp i (by omega))
      · rw [ext_lt (by omega), ext_lt (by omega)] at e
        exact r.inj i j (by omega) (by omega) e
    · rw [hl]
      by_cases h1 : i < S.length
      · rw [List.getElem?_append_left h1] at e
        rw [ext_lt h1]
        exact (r.obj i ob e).mono (fun v h => by rw [upd_ne (ne_of_none h hp)]; exact h) (Nat.le_succ _) (fun _ hj => ext_lt hj) (fun _ _ => sqT_upd hp) (fun _ _ => sqR_upd hp)
      · rw [List.getElem?_append_right (by omega)] at e
        have h2 : i = S.length := by
          have := (List.getElem?_eq_some_iff.mp e).1
          simp at this
          omega
        subst h2
        simp at e
        subst e
        rw [ext_same]
        exact ho
  agree := fun i hi => ext_lt hi
  le := by simp
  frame := fun a ob h n => ⟨by rw [upd_ne (ne_of_none h hp)]; exact h, fun i hi => by
    by_cases h1 : i < S.length
    · rw [ext_lt h1]; exact n i h1
    · have h2 : i = S.length := by simp at hi; omega
      subst h2
      rw [ext_same]
      exact fun z => ne_of_none h hp z.symm⟩
theorem After.newLst (r : Rep K mg μ S H) {p : Addr} {xs : List D} {vs : List V} (hp : H p = none) (h : RepVs K μ H S.length xs vs) : After K mg μ S H (ext μ S.length p) (S ++ [.lst xs]) (upd H p (.lst vs)) :=
  After.new r hp ⟨vs, upd_same, h.mono (Nat.le_succ _) (fun _ hj => ext_lt hj) (fun _ _ => sqT_upd hp) (fun _ _ => sqR_upd hp)⟩
theorem RepV.newRef {p : Addr} {o : MO} : RepV K (ext μ S.length p) H' (S ++ [o]).length (.ref S.length) (.ref p) := ⟨by simp, by rw [ext_same]⟩
/-- an object of the store is changed -/
theorem After.write (r : Rep K mg μ S H) {n : Nat} {u : HO} {o : MO} (hn : n < S.length) (ho : RepO K μ (upd H (μ n) u) S.length mg (μ n) o) : After K mg μ S H μ (S.set n o) (upd H (μ n) u) := by
  have nt : ∀ {a : Addr} {v : HO}, H a = some v → (∀ i, i < S.length → μ i ≠ a) → upd H (μ n) u a = some v := fun {a v} h k => by rw [upd_ne (fun z => k n hn z.symm)]; exact h
  have hT : ∀ a vs, SqT K H a vs → SqT K (upd H (μ n) u) a vs := fun a vs h => by
    rcases h with (h | ⟨o, h⟩) | h
    · exact .inl (.inl (nt h (r.offTup h)))
    · exact .inl (.inr ⟨o, nt h (r.offFrz h)⟩)
    · exact .inr h
  have hR : ∀ a vs, SqR K H a vs → SqR K (upd H (μ n) u) a vs := fun a vs h => by
    rcases h with ⟨o, h⟩ | h
    · exact .inl ⟨o, nt h (r.offFrz h)⟩
    · exact .inr h
  refine ⟨⟨fun i j hi hj e => r.inj i j (by simpa using hi) (by simpa using hj) e, fun i ob e => ?_⟩, fun _ _ => rfl, by simp, fun a v h k => ⟨nt h k, fun i hi => k i (by simpa using hi)⟩⟩
  rw [List.length_set]
  by_cases h1 : i = n
  · subst h1
    rw [List.getElem?_set_self hn] at e
    cases e
    exact ho
  · rw [List.getElem?_set_ne (Ne.symm h1)] at e
    have hi : i < S.length := (List.getElem?_eq_some_iff.mp e).1
    refine (r.obj i ob e).mono (fun v h => ?_) (Nat.le_refl _) (fun _ _ => rfl) hT hR
    rw [upd_ne (fun z => h1 (r.inj i n hi hn z))]
    exact h
theorem RepVs.write (r : Rep K mg μ S H) {n : Nat} {u : HO} (hn : n < S.length) {xs : List D} {vs : List V} (h : RepVs K μ H S.length xs vs) : RepVs K μ (upd H (μ n) u) S.length xs vs := by
  have nt : ∀ {a : Addr} {v : HO}, H a = some v → (∀ i, i < S.length → μ i ≠ a) → upd H (μ n) u a = some v := fun {a v} h k => by rw [upd_ne (fun z => k n hn z.symm)]; exact h
  refine h.mono (Nat.le_refl _) (fun _ _ => rfl) (fun a vs h => ?_) (fun a vs h => ?_)
  · rcases h with (h | ⟨o, h⟩) | h
    · exact .inl (.inl (nt h (r.offTup h)))
    · exact .inl (.inr ⟨o, nt h (r.offFrz h)⟩)
    · exact .inr h
  · rcases h with ⟨o, h⟩ | h
    · exact .inl ⟨o, nt h (r.offFrz h)⟩
    · exact .inr h
theorem After.writeLst (r : Rep K mg μ S H) {n : Nat} {xs : List D} {vs : List V} (hn : n < S.length) (h : RepVs K μ H S.length xs vs) : After K mg μ S H μ (S.set n (.lst xs)) (upd H (μ n) (.lst vs)) :=
  After.write r hn ⟨vs, upd_same, h.write r hn⟩
theorem Rep.lst (r : Rep K mg μ S H) {n : Nat} {xs : List D} (e : S[n]? = some (.lst xs)) : ∃ vs, H (μ n) = some (.lst vs) ∧ RepVs K μ H S.length xs vs := r.obj n _ e
end

/-! ### the store behind a call: what was made in it and isn't told any more is dropped -/
mutual
def D.und (n : Nat) : D → Bool
  | .tup xs => undAll n xs
  | .rl xs => undAll n xs
  | .ref i => decide (i < n)
  | _ => true
def undAll (n : Nat) : List D → Bool
  | [] => true
  | x :: xs => x.und n && undAll n xs
end
def MO.und (n : Nat) : MO → Bool
  | .lst xs => undAll n xs
  | .dct kvs => undAll n (kvs.map (·.2))
  | .ins _ fs => undAll n (fs.map (·.2))
def drop (n : Nat) (d : D) (S : Store) : Store := if d.und n && (S.take n).all (MO.und n) then S.take n else S
def R.gc (n : Nat) : R D → R D
  | .ok d S => .ok d (drop n d S)
  | .exc c d S => .exc c d (drop n d S)
  | .fail => .fail
section
variable {K : PySem.W.Frag} {mg : Str → Option Value} {μ μ' : Nat → Addr} {H H' : Hp} {S S' : Store} {N n : Nat}
mutual
theorem RepV.below : ∀ {d : D} {v : V}, RepV K μ H N d v → d.und n = true → RepV K μ H n d v
  | .non, _, h, _ => h
  | .bl _, _, h, _ => h
  | .int _, _, h, _ => h
  | .str _, _, h, _ => h
  | .tup xs, _, ⟨a, vs, e, h1, h2⟩, b => ⟨a, vs, e, h1, RepVs.below h2 (by simpa [D.und] using b)⟩
  | .rl xs, _, ⟨a, vs, e, h1, h2⟩, b => ⟨a, vs, e, h1, RepVs.below h2 (by simpa [D.und] using b)⟩
  | .ref i, _, ⟨h1, h2⟩, b => ⟨by simpa [D.und] using b, h2⟩
theorem RepVs.below : ∀ {d : List D} {v : List V}, RepVs K μ H N d v → undAll n d = true → RepVs K μ H n d v
  | [], _, h, _ => h
  | x :: xs, _, ⟨v, r, e, h1, h2⟩, b => by
    have b' : x.und n = true ∧ undAll n xs = true := by simpa [undAll] using b
    exact ⟨v, r, e, RepV.below h1 b'.1, RepVs.below h2 b'.2⟩
end
theorem RepF.below : ∀ {d : List (Str × D)} {v : List (Str × V)}, RepF K μ H N d v → undAll n (d.map (·.2)) = true → RepF K μ H n d v
  | [], _, h, _ => h
  | (f, x) :: xs, _, ⟨v, r, e, h1, h2⟩, b => by
    have b' : x.und n = true ∧ undAll n (xs.map (·.2)) = true := by simpa [undAll] using b
    exact ⟨v, r, e, RepV.below h1 b'.1, RepF.below h2 b'.2⟩
theorem RepK.below : ∀ {d : List (Key × D)} {v : List (Key × V)}, RepK K μ H N d v → undAll n (d.map (·.2)) = true → RepK K μ H n d v
  | [], _, h, _ => h
  | (f, x) :: xs, _, ⟨v, r, e, h1, h2⟩, b => by
    have b' : x.und n = true ∧ undAll n (xs.map (·.2)) = true := by simpa [undAll] using b
    exact ⟨v, r, e, RepV.below h1 b'.1, RepK.below h2 b'.2⟩
theorem After.drop {d : D} {v : V} (f : After K mg μ S H μ' S' H') (h : RepV K μ' H' S'.length d v) : After K mg μ S H μ' (drop S.length d S') H' ∧ RepV K μ' H' (drop S.length d S').length d v := by
  unfold MP.drop
  split
  · rename_i c
    have c' : d.und S.length = true ∧ (S'.take S.length).all (MO.und S.length) = true := by simpa using c
    have hl : (S'.take S.length).length = S.length := by rw [List.length_take]; have := f.le; omega
    refine ⟨⟨⟨fun i j hi hj e => f.rep.inj i j ?_ ?_ e, fun i o e => ?_⟩, f.agree, by omega, fun a o q k => ?_⟩, by rw [hl]; exact h.below c'.1⟩
    · have := f.le; omega
    · have := f.le; omega
    · rw [hl]
      have hi : i < S.length := by have := (List.getElem?_eq_some_iff.mp e).1; omega
      have hm : o ∈ S'.take S.length := List.mem_of_getElem? e
      have hb : MO.und S.length o = true := List.all_eq_true.mp c'.2 o hm
      rw [List.getElem?_take_of_lt hi] at e
      have q := f.rep.obj i o e
      cases o with
      | lst xs => obtain ⟨vs, e, q⟩ := q; exact ⟨vs, e, q.below hb⟩
      | dct xs => obtain ⟨vs, e, q⟩ := q; exact ⟨vs, e, q.below hb⟩
      | ins c fs => obtain ⟨C, dx, vs, e, m, q⟩ := q; exact ⟨C, dx, vs, e, m, q.below hb⟩
    · obtain ⟨x, y⟩ := f.frame a o q k
      exact ⟨x, fun i hi => y i (by have := f.le; omega)⟩
  · exact ⟨f, h⟩
end
end MP

namespace MP
open PySem L2

/-! ### readings -/
section
variable (K : PySem.W.Frag) (mg : Str → Option Value) (W : WX)
/-- what a run's result wants -/
def Pst {α : Type} (σ : St) (r : R α) (μ : Nat → Addr) (S : Store) (H : Hp) (G : α → (Nat → Addr) → Store → Hp → Prop) : Prop :=
  match r with
  | .ok a S' => ∀ μ' H', After K mg μ S H μ' S' H' → G a μ' S' H'
  | .exc c d S' => ∀ μ' H' C dd w, After K mg μ S H μ' S' H' → mg c = some (.ref C) → H' dd = some (.xd [(("value" : Str), w)]) → RepV K μ' H' S'.length d w → W (.ref C) (some dd) σ H'
  | .fail => False
def tE (f : FE) : TE := fun σ H Q => ∃ μ S ρ, Rep K mg μ S H ∧ REnv K μ H S.length ρ σ ∧ Pst K mg W σ (f ρ S) μ S H fun d μ' S' H' => ∀ v, RepV K μ' H' S'.length d v → Q v H'
def tT (f : FE) : TT := fun σ H Q => ∃ μ S ρ, Rep K mg μ S H ∧ REnv K μ H S.length ρ σ ∧ Pst K mg W σ (f ρ S) μ S H fun d μ' S' H' => ∃ b, d = .bl b ∧ Q b H'
def tA (f : FA) : TA := fun σ H Q => ∃ μ S ρ, Rep K mg μ S H ∧ REnv K μ H S.length ρ σ ∧ Pst K mg W σ (f ρ S) μ S H fun d μ' S' H' => ∀ v, RepVs K μ' H' S'.length d v → Q v H'
/-- what a flow wants -/
def Flw (D : Ends) : Fl → (Nat → Addr) → Store → Hp → Prop
  | .nx ρ, μ, S, H => ∀ σ', REnv K μ H S.length ρ σ' → D.nx σ' H
  | .bk ρ, μ, S, H => ∀ σ', REnv K μ H S.length ρ σ' → D.bk σ' H
  | .ct ρ, μ, S, H => ∀ σ', REnv K μ H S.length ρ σ' → D.ct σ' H
  | .rt d, μ, S, H => ∀ v, RepV K μ H S.length d v → D.rt v H
  | .xc c d ρ, μ, S, H => ∀ σ' C dd w, REnv K μ H S.length ρ σ' → mg c = some (.ref C) → H dd = some (.xd [(("value" : Str), w)]) → RepV K μ H S.length d w → W (.ref C) (some dd) σ' H
/-- what a statement's result wants (it raises by its flow) -/
def PsS {α : Type} (r : R α) (μ : Nat → Addr) (S : Store) (H : Hp) (G : α → (Nat → Addr) → Store → Hp → Prop) : Prop :=
  match r with
  | .ok a S' => ∀ μ' H', After K mg μ S H μ' S' H' → G a μ' S' H'
  | _ => False
def tS (f : FS) : TS := fun D σ H => ∃ μ S ρ, Rep K mg μ S H ∧ REnv K μ H S.length ρ σ ∧ PsS K mg (f ρ S) μ S H (Flw K mg W D)
end
section
variable {K : PySem.W.Frag} {mg : Str → Option Value} {W : WX} {σ : St} {μ μ1 : Nat → Addr} {S S1 : Store} {H H1 : Hp} {ρ : Rho}
theorem Pst.imp {α : Type} {r : R α} {G G' : α → (Nat → Addr) → Store → Hp → Prop} (h : Pst K mg W σ r μ S H G) (hG : ∀ a μ' S' H', After K mg μ S H μ' S' H' → G a μ' S' H' → G' a μ' S' H') : Pst K mg W σ r μ S H G' := by
  cases r with
  | ok a S' => exact fun μ' H' f => hG _ _ _ _ f (h μ' H' f)
  | exc c d S' => exact h
  | fail => exact h
theorem Pst.from {α : Type} {r : R α} {G : α → (Nat → Addr) → Store → Hp → Prop} (h : Pst K mg W σ r μ S H G) (f : After K mg μ S H μ1 S1 H1) : Pst K mg W σ r μ1 S1 H1 G := by
  cases r with
  | ok a S' => exact fun μ' H' g => h μ' H' (f.trans g)
  | exc c d S' => exact fun μ' H' C dd w g => h μ' H' C dd w (f.trans g)
  | fail => exact h
theorem Pst.bind {α β : Type} {r : R α} {g : α → Store → R β} {G : β → (Nat → Addr) → Store → Hp → Prop} (h : Pst K mg W σ (r.bind g) μ S H G) :
    Pst K mg W σ r μ S H fun a μ1 S1 H1 => Pst K mg W σ (g a S1) μ1 S1 H1 G := by
  cases r with
  | ok a S' => exact fun μ' H' f => Pst.from h f
  | exc c d S' => exact h
  | fail => exact h
/-- the first part's reading; behind it the rest -/
theorem Pst.toE {β : Type} {f : FE} {g : D → Store → R β} {G : β → (Nat → Addr) → Store → Hp → Prop} (r : Rep K mg μ S H) (e : REnv K μ H S.length ρ σ) (h : Pst K mg W σ ((f ρ S).bind g) μ S H G) :
    tE K mg W f σ H fun v H1 => ∃ d μ1 S1, Rep K mg μ1 S1 H1 ∧ REnv K μ1 H1 S1.length ρ σ ∧ RepV K μ1 H1 S1.length d v ∧ After K mg μ S H μ1 S1 H1 ∧ Pst K mg W σ (g d S1) μ1 S1 H1 G :=
  ⟨μ, S, ρ, r, e, (Pst.bind h).imp fun d μ' S' H' f q v rv => ⟨d, μ', S', f.rep, f.env r e, rv, f, q⟩⟩
theorem Pst.toA {β : Type} {f : FA} {g : List D → Store → R β} {G : β → (Nat → Addr) → Store → Hp → Prop} (r : Rep K mg μ S H) (e : REnv K μ H S.length ρ σ) (h : Pst K mg W σ ((f ρ S).bind g) μ S H G) :
    tA K mg W f σ H fun v H1 => ∃ d μ1 S1, Rep K mg μ1 S1 H1 ∧ REnv K μ1 H1 S1.length ρ σ ∧ RepVs K μ1 H1 S1.length d v ∧ After K mg μ S H μ1 S1 H1 ∧ Pst K mg W σ (g d S1) μ1 S1 H1 G :=
  ⟨μ, S, ρ, r, e, (Pst.bind h).imp fun d μ' S' H' f q v rv => ⟨d, μ', S', f.rep, f.env r e, rv, f, q⟩⟩
end
theorem PE.imp {X : Cx} {e : Expr} {t t' : TE} (h : PE X e t) (k : ∀ σ H Q, t' σ H Q → t σ H Q) : PE X e t' := ⟨fun pins s σ H Q I q => h.run pins s σ H Q I (k σ H Q q)⟩
theorem PT.imp {X : Cx} {e : Expr} {t t' : TT} (h : PT X e t) (k : ∀ σ H Q, t' σ H Q → t σ H Q) : PT X e t' := ⟨fun pins s σ H Q I q => h.run pins s σ H Q I (k σ H Q q)⟩
theorem PW.imp {X : Cx} {e : Expr} {t t' : TT} (h : PW X e t) (k : ∀ σ H Q, t' σ H Q → t σ H Q) : PW X e t' := ⟨fun wh pins s σ H Q I q => h.run wh pins s σ H Q I (k σ H Q q)⟩
theorem PA.imp {X : Cx} {es : List Expr} {t t' : TA} (h : PA X es t) (k : ∀ σ H Q, t' σ H Q → t σ H Q) : PA X es t' := ⟨fun p pins s σ H Q I q => h.run p pins s σ H Q I (k σ H Q q)⟩
theorem PS.imp {X : Cx} {e : Stmt} {t t' : TS} (h : PS X e t) (k : ∀ D σ H, t' D σ H → t D σ H) : PS X e t' := ⟨fun pins s σ H D I q => h.run pins s σ H D I (k D σ H q)⟩
theorem PSs.imp {X : Cx} {e : List Stmt} {t t' : TS} (h : PSs X e t) (k : ∀ D σ H, t' D σ H → t D σ H) : PSs X e t' := ⟨fun pins s σ H D I q => h.run pins s σ H D I (k D σ H q)⟩
abbrev SE (X : Cx) (W : WX) (e : Expr) (f : FE) : Prop := PE X e (tE X.K X.mg W f)
abbrev ST (X : Cx) (W : WX) (e : Expr) (f : FE) : Prop := PT X e (tT X.K X.mg W f)
abbrev SA (X : Cx) (W : WX) (es : List Expr) (f : FA) : Prop := PA X es (tA X.K X.mg W f)
abbrev SS (X : Cx) (W : WX) (e : Stmt) (f : FS) : Prop := PS X e (tS X.K X.mg W f)
abbrev SSs (X : Cx) (W : WX) (e : List Stmt) (f : FS) : Prop := PSs X e (tS X.K X.mg W f)

section
variable {X : Cx} {W : WX} {pos : Pos} {a b c : Expr} {fa fb fc : FE}
abbrev Exp (X : Cx) (r : Nat → Nat) : Prop := True
/-- monotone readings -/
theorem tE.mono {K : PySem.W.Frag} {mg : Str → Option Value} {f : FE} {σ : St} {H : Hp} {Q Q' : VK} (h : tE K mg W f σ H Q) (k : ∀ v H, Q v H → Q' v H) : tE K mg W f σ H Q' := by
  obtain ⟨μ, S, ρ, r, e, p⟩ := h
  exact ⟨μ, S, ρ, r, e, p.imp fun d μ' S' H' _ q v rv => k v H' (q v rv)⟩
theorem tA.mono {K : PySem.W.Frag} {mg : Str → Option Value} {f : FA} {σ : St} {H : Hp} {Q Q' : List V → Hp → Prop} (h : tA K mg W f σ H Q) (k : ∀ v H, Q v H → Q' v H) : tA K mg W f σ H Q' := by
  obtain ⟨μ, S, ρ, r, e, p⟩ := h
  exact ⟨μ, S, ρ, r, e, p.imp fun d μ' S' H' _ q v rv => k v H' (q v rv)⟩
theorem tT.mono {K : PySem.W.Frag} {mg : Str → Option Value} {f : FE} {σ : St} {H : Hp} {Q Q' : Bool → Hp → Prop} (h : tT K mg W f σ H Q) (k : ∀ v H, Q v H → Q' v H) : tT K mg W f σ H Q' := by
  obtain ⟨μ, S, ρ, r, e, p⟩ := h
  exact ⟨μ, S, ρ, r, e, p.imp fun d μ' S' H' _ ⟨b, eb, q⟩ => ⟨b, eb, k b H' q⟩⟩
/-- a pure end -/
theorem Pst.end_ {K : PySem.W.Frag} {mg : Str → Option Value} {σ : St} {μ : Nat → Addr} {S : Store} {H : Hp} {α : Type} {x : α} {G : α → (Nat → Addr) → Store → Hp → Prop} (r : Rep K mg μ S H) (h : Pst K mg W σ (.ok x S) μ S H G) : G x μ S H :=
  h μ H (After.refl r)

/-! ### names and constants -/
/-- the value in slot i -/
def fVar (i : Nat) : FE := fun ρ S => match ρ[i]? with
  | some (some d) => .ok d S
  | _ => .fail
theorem se_var {i : Nat} {x : Str} (hN : X.N[i]? = some x) (hv : Vis X.env.scope x) (hd : (x == ("__debug__" : Str)) = false) (hcd : (x == ("__classdict__" : Str)) = false) : SE X W (.Name x pos) (fVar i) := by
  refine PE.imp (pe_var hN hv hd hcd) fun σ H Q ⟨μ, S, ρ, r, e, p⟩ => ?_
  unfold fVar at p
  split at p
  · rename_i d hd
    obtain ⟨v, h1, h2⟩ := e.at_ i d hd
    exact ⟨v, h1, p.end_ r v h2⟩
  · exact p.elim
def fC (d : D) : FE := fun _ S => .ok d S
theorem se_c {d : D} {v : V} (h : PE X a (tC v)) (hr : ∀ μ H N, RepV X.K μ H N d v) : SE X W a (fC d) :=
  PE.imp h fun σ H Q ⟨μ, S, ρ, r, e, p⟩ => p.end_ r v (hr _ _ _)
theorem se_int {i : Int} {j} : SE X W (.Constant (.int i) j pos) (fC (.int i)) := se_c pe_int fun _ _ _ => rfl
theorem se_bl {i : Bool} {j} : SE X W (.Constant (.bool i) j pos) (fC (.bl i)) := se_c pe_bl fun _ _ _ => rfl
theorem se_str {i : Str} {j} : SE X W (.Constant (.str i) j pos) (fC (.str i)) := se_c pe_str fun _ _ _ => rfl
theorem se_non {j} : SE X W (.Constant .none j pos) (fC .non) := se_c pe_non fun _ _ _ => rfl

/-! ### operators by values -/
abbrev Op1 := D → Store → Option (D × Store)
abbrev Op2 := D → D → Store → Option (D × Store)
abbrev OpN := List D → Store → Option (D × Store)
def R.of {α : Type} : Option (α × Store) → R α
  | some (d, S) => .ok d S
  | none => .fail
@[simp] theorem R.of_some {α : Type} (d : α) (S : Store) : R.of (some (d, S)) = .ok d S := rfl
@[simp] theorem R.of_none {α : Type} : (R.of none : R α) = .fail := rfl
/-- the result of an operation is wanted -/
def Res (K : PySem.W.Frag) (mg : Str → Option Value) (o : Option (D × Store)) (μ : Nat → Addr) (S : Store) (H : Hp) (Q : VK) : Prop :=
  ∃ d S', o = some (d, S') ∧ ∀ μ' H' v, After K mg μ S H μ' S' H' → RepV K μ' H' S'.length d v → Q v H'
def r2 (K : PySem.W.Frag) (mg : Str → Option Value) (f : Op2) : R2 := fun x y H Q => ∃ μ S d1 d2, Rep K mg μ S H ∧ RepV K μ H S.length d1 x ∧ RepV K μ H S.length d2 y ∧ Res K mg (f d1 d2 S) μ S H Q
def r1 (K : PySem.W.Frag) (mg : Str → Option Value) (f : Op1) : V → Hp → VK → Prop := fun x H Q => ∃ μ S d1, Rep K mg μ S H ∧ RepV K μ H S.length d1 x ∧ Res K mg (f d1 S) μ S H Q
def rN (K : PySem.W.Frag) (mg : Str → Option Value) (f : OpN) : List V → Hp → VK → Prop := fun xs H Q => ∃ μ S ds, Rep K mg μ S H ∧ RepVs K μ H S.length ds xs ∧ Res K mg (f ds S) μ S H Q
theorem Pst.res {K : PySem.W.Frag} {mg : Str → Option Value} {σ : St} {μ : Nat → Addr} {S : Store} {H : Hp} {o : Option (D × Store)} {Q : VK}
    (h : Pst K mg W σ (R.of o) μ S H fun d μ' S' H' => ∀ v, RepV K μ' H' S'.length d v → Q v H') : Res K mg o μ S H Q := by
  cases o with
  | none => exact h.elim
  | some p => exact ⟨p.1, p.2, rfl, fun μ' H' v f rv => h μ' H' f v rv⟩
def f2 (f : Op2) (a b : FE) : FE := fun ρ S => (a ρ S).bind fun x S1 => (b ρ S1).bind fun y S2 => R.of (f x y S2)
def f1 (f : Op1) (a : FE) : FE := fun ρ S => (a ρ S).bind fun x S1 => R.of (f x S1)
theorem op2_read {f : Op2} (ha : PE X a (tE X.K X.mg W fa)) {σ : St} {H : Hp} {Q : VK} (h : tE X.K X.mg W (f2 f fa fb) σ H Q) : tOp (r2 X.K X.mg f) (tE X.K X.mg W fa) (tE X.K X.mg W fb) σ H Q := by
  obtain ⟨μ, S, ρ, r, e, p⟩ := h
  refine (p.toE r e).mono fun x H1 ⟨d1, μ1, S1, r1, e1, rx, _, p1⟩ => ?_
  refine (p1.toE r1 e1).mono fun y H2 ⟨d2, μ2, S2, r2, e2, ry, f2, p2⟩ => ?_
  exact ⟨μ2, S2, d1, d2, r2, f2.val r1 rx, ry, p2.res⟩
theorem se_bin {op : Operator} {f : Op2} (ho : OpR X (binaryOp op) (r2 X.K X.mg f)) (ha : SE X W a fa) (hb : SE X W b fb) : SE X W (.BinOp a op b pos) (f2 f fa fb) :=
  PE.imp (pe_op ho ha hb) fun _ _ _ h => op2_read ha h
theorem se_cmp {op : CmpOp} {f : Op2} (ho : OpR X (compareOp op) (r2 X.K X.mg f)) (ha : SE X W a fa) (hb : SE X W b fb) (hm : behindInMarks op b = false) : SE X W (.Compare a [op] [b] pos) (f2 f fa fb) :=
  PE.imp (pe_cmpR ho ha hb hm) fun _ _ _ h => op2_read ha h
theorem se_un {op : UnaryOp} {f : Op1} (ho : UnR X (unaryOp op) (r1 X.K X.mg f)) (ha : SE X W a fa) : SE X W (.UnaryOp op a pos) (f1 f fa) :=
  PE.imp (pe_un ho ha) fun _ _ _ ⟨μ, S, ρ, r, e, p⟩ => (p.toE r e).mono fun x H1 ⟨d1, μ1, S1, r1, e1, rx, _, p1⟩ => ⟨μ1, S1, d1, r1, rx, p1.res⟩
theorem se_ix {f : Op2} (ho : IxR X (r2 X.K X.mg f)) (ha : SE X W a fa) (hb : SE X W b fb) (hs : PlainIx b) : SE X W (.Subscript a b pos) (f2 f fa fb) :=
  PE.imp (pe_ix ho ha hb hs) fun _ _ _ h => op2_read ha h

/-! ### tests -/
/-- a value that is a bool -/
def fB (a : FE) : FE := fun ρ S => (a ρ S).bind fun x S1 => match x with
  | .bl b => .ok (.bl b) S1
  | _ => .fail
theorem bool_read {f : FE} {σ : St} {H : Hp} {Q : Bool → Hp → Prop} {K : PySem.W.Frag} {mg : Str → Option Value} (h : tT K mg W (fB f) σ H Q) : tE K mg W f σ H fun x H' => ∃ k, x = .bl k ∧ Q k H' := by
  obtain ⟨μ, S, ρ, r, e, p⟩ := h
  refine (p.toE r e).mono fun x H1 ⟨d1, μ1, S1, r1, e1, rx, _, p1⟩ => ?_
  cases d1 with
  | bl k =>
    cases rx
    obtain ⟨b, eb, q⟩ := p1.end_ r1
    cases eb
    exact ⟨k, rfl, q⟩
  | _ => exact p1.elim
theorem st_val {f : FE} (h : SE X W a f) (he : ∀ whole, isTrue a X.env whole = (do let v ← whole; standAt a.pos; holding [v] (truthy v))) : ST X W a (fB f) :=
  PT.imp (pt_val h he) fun _ _ _ q => bool_read q
theorem st_cmp {op : CmpOp} {f : Op2} (ho : OpR X (compareOp op) (r2 X.K X.mg f)) (ha : SE X W a fa) (hb : SE X W b fb) (hm : behindInMarks op b = false) : ST X W (.Compare a [op] [b] pos) (fB (f2 f fa fb)) :=
  PT.imp (pt_cmpR ho ha hb hm) fun σ H Q h => by
    have h' := bool_read h
    obtain ⟨μ, S, ρ, r, e, p⟩ := h'
    exact op2_read ha ⟨μ, S, ρ, r, e, p⟩
def fNot (a : FE) : FE := fun ρ S => (a ρ S).bind fun x S1 => match x with
  | .bl b => .ok (.bl !b) S1
  | _ => .fail
theorem se_not (ha : SE X W a fa) : SE X W (.UnaryOp .Not a pos) (fNot fa) :=
  PE.imp (pe_not ha) fun _ _ _ ⟨μ, S, ρ, r, e, p⟩ => (p.toE r e).mono fun x H1 ⟨d1, μ1, S1, r1, e1, rx, _, p1⟩ => by
    cases d1 with
    | bl k => cases rx; exact ⟨k, rfl, p1.end_ r1 _ rfl⟩
    | _ => exact p1.elim
theorem Pst.toT {K : PySem.W.Frag} {mg : Str → Option Value} {σ : St} {μ : Nat → Addr} {S : Store} {H : Hp} {ρ : Rho} {β : Type} {f : FE} {g : Bool → Store → R β} {G : β → (Nat → Addr) → Store → Hp → Prop} (r : Rep K mg μ S H) (e : REnv K μ H S.length ρ σ)
    (h : Pst K mg W σ ((f ρ S).bind fun x S1 => match x with | .bl b => g b S1 | _ => .fail) μ S H G) :
    tT K mg W f σ H fun b H1 => ∃ μ1 S1, Rep K mg μ1 S1 H1 ∧ REnv K μ1 H1 S1.length ρ σ ∧ After K mg μ S H μ1 S1 H1 ∧ Pst K mg W σ (g b S1) μ1 S1 H1 G :=
  ⟨μ, S, ρ, r, e, (Pst.bind h).imp fun d μ' S' H' f q => by
    cases d with
    | bl b => exact ⟨b, rfl, μ', S', f.rep, f.env r e, f, q⟩
    | _ => exact q.elim⟩
theorem st_not (ha : ST X W a fa) : ST X W (.UnaryOp .Not a pos) (fNot fa) :=
  PT.imp (pt_not ha) fun _ _ _ ⟨μ, S, ρ, r, e, p⟩ => (Pst.toT (g := fun (b : Bool) S1 => (R.ok (D.bl !b) S1 : R D)) r e p).mono fun b H1 ⟨μ1, S1, r1, e1, _, p1⟩ => by
    obtain ⟨b', eb, q⟩ := p1.end_ r1
    cases eb
    exact q
/-- and, or: of bools; the last one any value -/
def fAnd (a b : FE) : FE := fun ρ S => (a ρ S).bind fun x S1 => match x with
  | .bl true => b ρ S1
  | .bl false => .ok (.bl false) S1
  | _ => .fail
def fOr (a b : FE) : FE := fun ρ S => (a ρ S).bind fun x S1 => match x with
  | .bl true => .ok (.bl true) S1
  | .bl false => b ρ S1
  | _ => .fail
variable {rest : List Expr}
theorem fAnd_alt (ρ : Rho) (S : Store) : fAnd fa fb ρ S = (fa ρ S).bind fun x S1 => match x with | .bl k => (fun (k : Bool) S1 => if k = true then fb ρ S1 else .ok (.bl false) S1) k S1 | _ => .fail := by
  unfold fAnd
  congr 1
  funext x S1
  cases x with
  | bl k => cases k <;> rfl
  | _ => rfl
theorem fOr_alt (ρ : Rho) (S : Store) : fOr fa fb ρ S = (fa ρ S).bind fun x S1 => match x with | .bl k => (fun (k : Bool) S1 => if k = true then .ok (.bl true) S1 else fb ρ S1) k S1 | _ => .fail := by
  unfold fOr
  congr 1
  funext x S1
  cases x with
  | bl k => cases k <;> rfl
  | _ => rfl
theorem se_one {op} (ha : SE X W a fa) : SE X W (.BoolOp op [a] pos) fa := pe_one ha
theorem se_and (ha : SE X W a fa) (hb : SE X W (.BoolOp .And (b :: rest) pos) fb) : SE X W (.BoolOp .And (a :: b :: rest) pos) (fAnd fa fb) :=
  PE.imp (pe_and ha hb) fun _ _ _ ⟨μ, S, ρ, r, e, p⟩ => (p.toE r e).mono fun x H1 ⟨d1, μ1, S1, r1, e1, rx, _, p1⟩ => by
    cases d1 with
    | bl k =>
      cases rx
      refine ⟨k, rfl, ?_⟩
      cases k with
      | true => rw [if_pos rfl]; exact ⟨μ1, S1, ρ, r1, e1, p1⟩
      | false => rw [if_neg Bool.false_ne_true]; exact p1.end_ r1 _ rfl
    | _ => exact p1.elim
theorem se_or (ha : SE X W a fa) (hb : SE X W (.BoolOp .Or (b :: rest) pos) fb) : SE X W (.BoolOp .Or (a :: b :: rest) pos) (fOr fa fb) :=
  PE.imp (pe_or ha hb) fun _ _ _ ⟨μ, S, ρ, r, e, p⟩ => (p.toE r e).mono fun x H1 ⟨d1, μ1, S1, r1, e1, rx, _, p1⟩ => by
    cases d1 with
    | bl k =>
      cases rx
      refine ⟨k, rfl, ?_⟩
      cases k with
      | false => rw [if_neg Bool.false_ne_true]; exact ⟨μ1, S1, ρ, r1, e1, p1⟩
      | true => rw [if_pos rfl]; exact p1.end_ r1 _ rfl
    | _ => exact p1.elim
abbrev SW (X : Cx) (W : WX) (e : Expr) (f : FE) : Prop := PW X e (tT X.K X.mg W f)
theorem sw_one_and (ha : ST X W a fa) : SW X W (.BoolOp .And [a] pos) fa := pw_and1 ha
theorem sw_one_or (ha : ST X W a fa) : SW X W (.BoolOp .Or [a] pos) fa := pw_or1 ha
theorem sw_and (ha : ST X W a fa) (hb : SW X W (.BoolOp .And (b :: rest) pos) fb) : SW X W (.BoolOp .And (a :: b :: rest) pos) (fAnd fa fb) :=
  PW.imp (pw_and ha hb) fun σ H Q h => by
    obtain ⟨μ, S, ρ, r, e, p⟩ := h
    rw [fAnd_alt] at p
    refine (Pst.toT (g := fun (k : Bool) S1 => if k = true then fb ρ S1 else .ok (.bl false) S1) r e p).mono fun k H1 h1 => ?_
    obtain ⟨μ1, S1, r1, e1, _, p1⟩ := h1
    cases k with
    | true => rw [if_pos rfl]; exact ⟨μ1, S1, ρ, r1, e1, p1⟩
    | false =>
      rw [if_neg Bool.false_ne_true]
      obtain ⟨b', eb, q⟩ := Pst.end_ (x := D.bl false) r1 p1
      cases eb
      exact q
theorem sw_or (ha : ST X W a fa) (hb : SW X W (.BoolOp .Or (b :: rest) pos) fb) : SW X W (.BoolOp .Or (a :: b :: rest) pos) (fOr fa fb) :=
  PW.imp (pw_or ha hb) fun σ H Q h => by
    obtain ⟨μ, S, ρ, r, e, p⟩ := h
    rw [fOr_alt] at p
    refine (Pst.toT (g := fun (k : Bool) S1 => if k = true then .ok (.bl true) S1 else fb ρ S1) r e p).mono fun k H1 h1 => ?_
    obtain ⟨μ1, S1, r1, e1, _, p1⟩ := h1
    cases k with
    | false => rw [if_neg Bool.false_ne_true]; exact ⟨μ1, S1, ρ, r1, e1, p1⟩
    | true =>
      rw [if_pos rfl]
      obtain ⟨b', eb, q⟩ := Pst.end_ (x := D.bl true) r1 p1
      cases eb
      exact q
/-- a if t else b -/
def fIf (t a b : FE) : FE := fun ρ S => (t ρ S).bind fun x S1 => match x with
  | .bl k => (fun (k : Bool) S1 => if k = true then a ρ S1 else b ρ S1) k S1
  | _ => .fail
theorem se_if (hc : ST X W c fc) (ha : SE X W a fa) (hb : SE X W b fb) : SE X W (.IfExp c a b pos) (fIf fc fa fb) :=
  PE.imp (pe_ifExp hc ha hb) fun _ _ _ ⟨μ, S, ρ, r, e, p⟩ => (Pst.toT r e p).mono fun k H1 ⟨μ1, S1, r1, e1, _, p1⟩ => by
    cases k with
    | true => rw [if_pos rfl]; exact ⟨μ1, S1, ρ, r1, e1, p1⟩
    | false => rw [if_neg Bool.false_ne_true]; exact ⟨μ1, S1, ρ, r1, e1, p1⟩
/-- low <= x <= high -/
def fChain (f g : Op2) (a b c : FE) : FE := fun ρ S => (a ρ S).bind fun x S1 => (b ρ S1).bind fun y S2 => (R.of (f x y S2)).bind fun z S3 => match z with
  | .bl k => (fun (k : Bool) S3 => if k = true then (c ρ S3).bind fun w S4 => R.of (g y w S4) else .ok (.bl false) S3) k S3
  | _ => .fail
theorem R.of_bind {α β : Type} {o : Option (α × Store)} {g : α → Store → R β} : (R.of o).bind g = match o with | some (x, S) => g x S | none => .fail := by
  cases o with
  | none => rfl
  | some p => rfl
theorem chain_read {f g : Op2} {σ : St} {H : Hp} {Q : VK} {K : PySem.W.Frag} {mg : Str → Option Value} (h : tE K mg W (fChain f g fa fb fc) σ H Q) :
    tChain (r2 K mg f) (r2 K mg g) (tE K mg W fa) (tE K mg W fb) (tE K mg W fc) σ H Q := by
  obtain ⟨μ, S, ρ, r, e, p⟩ := h
  refine (p.toE r e).mono fun x H1 ⟨d1, μ1, S1, r1, e1, rx, _, p1⟩ => ?_
  refine (p1.toE r1 e1).mono fun y H2 ⟨d2, μ2, S2, r2, e2, ry, g2, p2⟩ => ?_
  refine ⟨μ2, S2, d1, d2, r2, g2.val r1 rx, ry, ?_⟩
  rw [R.of_bind] at p2
  split at p2
  · rename_i z S3 hz
    refine ⟨z, S3, hz, fun μ3 H3 v f3 rv => ?_⟩
    cases z with
    | bl k =>
      cases rv
      refine ⟨k, rfl, ?_⟩
      have p3 := p2.from f3
      cases k with
      | true =>
        rw [if_pos rfl]
        have p3 : Pst K mg W σ ((fc ρ S3).bind fun w S4 => R.of (g d2 w S4)) μ3 S3 H3 _ := p3
        refine (p3.toE f3.rep (f3.env r2 e2)).mono fun w H4 ⟨d4, μ4, S4, r4, e4, rw4, f4, p4⟩ => ?_
        exact ⟨μ4, S4, d2, d4, r4, f4.val f3.rep (f3.val r2 ry), rw4, p4.res⟩
      | false =>
        rw [if_neg Bool.false_ne_true]
        exact Pst.end_ (x := D.bl false) f3.rep p3 _ rfl
    | _ => exact p2.elim
  · exact p2.elim
theorem se_chain {op op' : CmpOp} {f g : Op2} (ho : OpR X (compareOp op) (r2 X.K X.mg f)) (ho' : OpR X (compareOp op') (r2 X.K X.mg g)) (ha : SE X W a fa) (hb : SE X W b fb) (hc : SE X W c fc) (hm : lastMarks [op, op'] [b, c] = false) : SE X W (.Compare a [op, op'] [b, c] pos) (fChain f g fa fb fc) :=
  PE.imp (pe_chain ho ho' ha hb hc hm) fun _ _ _ h => chain_read h
theorem st_chain {op op' : CmpOp} {f g : Op2} (ho : OpR X (compareOp op) (r2 X.K X.mg f)) (ho' : OpR X (compareOp op') (r2 X.K X.mg g)) (ha : SE X W a fa) (hb : SE X W b fb) (hc : SE X W c fc) (hm : lastMarks [op, op'] [b, c] = false) : ST X W (.Compare a [op, op'] [b, c] pos) (fB (fChain f g fa fb fc)) :=
  PT.imp (pt_chain ho ho' ha hb hc hm) fun _ _ _ h => chain_read (bool_read h)
end
end MP

namespace MP
open PySem L2

/-! ### argument lists, displays -/
def aNil : FA := fun _ S => .ok [] S
def aCons (a : FE) (r : FA) : FA := fun ρ S => (a ρ S).bind fun x S1 => (r ρ S1).bind fun xs S2 => .ok (x :: xs) S2
/-- the items of a list or a tuple -/
def itemsOf (S : Store) : D → Option (List D)
  | .tup xs => some xs
  | .rl xs => some xs
  | .ref n => match S[n]? with
    | some (.lst xs) => some xs
    | _ => none
  | _ => none
def aStar (a : FE) (r : FA) : FA := fun ρ S => (a ρ S).bind fun x S1 => match itemsOf S1 x with
  | some ys => (r ρ S1).bind fun xs S2 => .ok (ys ++ xs) S2
  | none => .fail
section
variable {K : PySem.W.Frag} {mg : Str → Option Value} {μ : Nat → Addr} {S : Store} {H : Hp}
theorem SqR.sqL {a : Addr} {vs : List V} (h : SqR K H a vs) : SqL K H a vs := by
  rcases h with ⟨o, h⟩ | h
  · exact .inl (.inr ⟨o, h⟩)
  · exact .inr h
theorem items_rep (r : Rep K mg μ S H) {d : D} {v : V} {xs : List D} (h : RepV K μ H S.length d v) (e : itemsOf S d = some xs) : ∃ a vs, v = .ref a ∧ (SqT K H a vs ∨ SqL K H a vs) ∧ RepVs K μ H S.length xs vs := by
  cases d with
  | tup ys => cases e; obtain ⟨a, vs, e, h1, h2⟩ := h; exact ⟨a, vs, e, .inl h1, h2⟩
  | rl ys => cases e; obtain ⟨a, vs, e, h1, h2⟩ := h; exact ⟨a, vs, e, .inr h1.sqL, h2⟩
  | ref n =>
    simp only [itemsOf] at e
    split at e
    · rename_i hn
      cases e
      obtain ⟨h1, h2⟩ := h
      obtain ⟨vs, q, rv⟩ := r.lst hn
      exact ⟨_, vs, h2, .inr (SqL.of q), rv⟩
    · cases e
  | _ => cases e
end
section
variable {X : Cx} {W : WX} {pos p : Pos} {e : Expr} {es : List Expr} {f : FE} {g : FA}
theorem sa_nil : SA X W [] aNil := PA.imp pa_nil fun _ _ _ ⟨μ, S, ρ, r, e, h⟩ => h.end_ r [] rfl
theorem sa_cons (h1 : SE X W e f) (h2 : SA X W es g) (hs : starEach (e :: es) X.env = (false, eval e X.env) :: starEach es X.env) : SA X W (e :: es) (aCons f g) :=
  PA.imp (pa_cons h1 h2 hs) fun σ H Q h => by
    obtain ⟨μ, S, ρ, r, e, p⟩ := h
    refine (p.toE r e).mono fun x H1 h1 => ?_
    obtain ⟨d1, μ1, S1, r1, e1, rx, _, p1⟩ := h1
    refine (p1.toA r1 e1).mono fun xs H2 h2 => ?_
    obtain ⟨d2, μ2, S2, r2, e2, ry, f2, p2⟩ := h2
    exact p2.end_ r2 _ ⟨x, xs, rfl, f2.val r1 rx, ry⟩
theorem sa_star (h1 : SE X W e f) (h2 : SA X W es g) : SA X W (.Starred e p :: es) (aStar f g) :=
  PA.imp (StX.pa_star h1 h2) fun σ H Q h => by
    obtain ⟨μ, S, ρ, r, e, p⟩ := h
    refine (p.toE r e).mono fun x H1 h1 => ?_
    obtain ⟨d1, μ1, S1, r1, e1, rx, _, p1⟩ := h1
    cases hi : itemsOf S1 d1 with
    | none => simp only [hi] at p1; exact p1.elim
    | some ys =>
      simp only [hi] at p1
      obtain ⟨a, vs, ea, hq, rv⟩ := items_rep r1 rx hi
      refine ⟨a, vs, ea, hq, ?_⟩
      refine (p1.toA r1 e1).mono fun xs H2 h2 => ?_
      obtain ⟨d2, μ2, S2, r2, e2, ry, f2, p2⟩ := h2
      exact p2.end_ r2 _ ((f2.vals r1 rv).append ry)
def szOk (n : Nat) : Bool := Nat.ble n 16777216
theorem szOk_le {n : Nat} (h : szOk n = true) : n ≤ sizeLine := by rw [sizeLine_eq]; exact Nat.le_of_ble_eq_true h
/-- (a, b, ..) -/
def fTup (a : FA) : FE := fun ρ S => (a ρ S).bind fun xs S1 => if szOk xs.length then .ok (.tup xs) S1 else .fail
/-- [a, b, ..] -/
def fLst (a : FA) : FE := fun ρ S => (a ρ S).bind fun xs S1 => if szOk xs.length then .ok (.ref S1.length) (S1 ++ [.lst xs]) else .fail
theorem se_tup {k : Nat} (h : SA X W es g) : SE X W (.Tuple es k pos) (fTup g) :=
  PE.imp (pe_tup h) fun σ H Q h => by
    obtain ⟨μ, S, ρ, r, e, p⟩ := h
    refine (p.toA r e).mono fun xs H1 h1 => ?_
    obtain ⟨ds, μ1, S1, r1, e1, rx, _, p1⟩ := h1
    split at p1
    · rename_i hz
      exact ⟨by rw [← rx.length]; exact szOk_le hz, fun q hq => p1 μ1 _ (After.tmp r1 hq) _ (RepV.newTup r1 hq rx)⟩
    · exact p1.elim
theorem se_lst (h : SA X W es g) : SE X W (.List es pos) (fLst g) :=
  PE.imp (pe_lst h) fun σ H Q h => by
    obtain ⟨μ, S, ρ, r, e, p⟩ := h
    refine (p.toA r e).mono fun xs H1 h1 => ?_
    obtain ⟨ds, μ1, S1, r1, e1, rx, _, p1⟩ := h1
    split at p1
    · rename_i hz
      exact ⟨by rw [← rx.length]; exact szOk_le hz, fun q hq => p1 _ _ (After.newLst r1 hq rx) _ RepV.newRef⟩
    · exact p1.elim
end

/-! ### calls of the text's own defs -/
abbrev CF := List D → Store → R D
/-- what a def promises: what cf tells -/
def spD (K : PySem.W.Frag) (mg : Str → Option Value) (cf : CF) : Sp := fun vs H Q E => ∃ μ S ds, Rep K mg μ S H ∧ RepVs K μ H S.length ds vs ∧
  Pst K mg (fun c d _ H' => E c d H') [] (cf ds S) μ S H fun d μ' S' H' => ∀ v, RepV K μ' H' S'.length d v → Q v H'
/-- nothing is told where the number of arguments is another -/
def Ar (n : Nat) (cf : CF) : Prop := ∀ ds S, ds.length ≠ n → cf ds S = .fail
theorem spD_len {K : PySem.W.Frag} {mg : Str → Option Value} {cf : CF} {n : Nat} (h : Ar n cf) : ∀ vs H Q E, spD K mg cf vs H Q E → vs.length = n := fun vs H Q E ⟨μ, S, ds, r, rv, p⟩ => by
  by_cases hl : ds.length = n
  · rw [← rv.length, hl]
  · rw [h ds S hl] at p
    exact p.elim
theorem Pst.callee {K : PySem.W.Frag} {mg : Str → Option Value} {W : WX} {σ : St} {μ : Nat → Addr} {S : Store} {H : Hp} {r : R D} {G : D → (Nat → Addr) → Store → Hp → Prop} (h : Pst K mg W σ r μ S H G) : Pst K mg (fun c d _ H' => W c d σ H') [] r μ S H G := by
  cases r with
  | ok a S' => exact h
  | exc c d S' => exact h
  | fail => exact h
def fCall (cf : CF) (a : FA) : FE := fun ρ S => (a ρ S).bind fun ds S1 => cf ds S1
theorem passesAt {X : Cx} {W : WX} (tk : Takes X W) (σ : St) : PassesAt (L2.CX X.prog X.w) X σ (fun c d H => W c d σ H) := fun pins H s e s' I c => tk e s' (XE.of_call I (fun _ _ _ h => h) c)
section
variable {X : Cx} {W : WX} {k : Nat} {f : Addr} {fd : FuncData} {ps : List Str} {cf : CF} {x : Str} {p pos : Pos} {e : Expr} {es : List Expr} {g : FA}
theorem se_call (F : FnG X.prog X.w X.K X.mg X.base k f fd ps (spD X.K X.mg cf)) (hr : Rm k X.A) (hg : Gl X x) (hm : X.mg x = some (.ref f)) (hk : PySem.W.keepIn X.K (.ref f) = true) (hb : Binds X.K fd ps [])
    (tk : Takes X W) (ha : SA X W (e :: es) g) (hdb : (x == ("__debug__" : Str)) = false) (he : starEach (e :: es) X.env = (false, eval e X.env) :: starEach es X.env) (hpl : (backTo pos (starEach es X.env)).any (·.1) = false) :
    SE X W (.Call (.Name x p) (e :: es) [] pos) (fCall cf g) := by
  refine ⟨fun pins s σ H Q I h => ?_⟩
  obtain ⟨μ, S, ρ, r, e, p⟩ := h
  refine wpAny_Call_Name_kw (ld_glob I hg hm ?_ hdb)
  refine PySem.W.callWith_K (h₀ := X.base) I.ok.mod.kin hk (thn (ha.run pos pins s σ H _ I (p.toA r e)) fun us s1 ⟨vs, H1, I1, rv, ds, μ1, S1, r1, e1, rx, _, p1⟩ => ⟨I1.kIn, ?_⟩) he hpl
  exact run_gB F hr hb (passesAt tk σ) I1 rv ⟨μ1, S1, ds, r1, rx, p1.callee⟩
theorem se_call0 (F : FnG X.prog X.w X.K X.mg X.base k f fd ps (spD X.K X.mg cf)) (hr : Rm k X.A) (hg : Gl X x) (hm : X.mg x = some (.ref f)) (hk : PySem.W.keepIn X.K (.ref f) = true) (hb : Binds X.K fd ps [])
    (tk : Takes X W) (hdb : (x == ("__debug__" : Str)) = false) : SE X W (.Call (.Name x p) [] [] pos) (fCall cf aNil) := by
  refine ⟨fun pins s σ H Q I h => ?_⟩
  obtain ⟨μ, S, ρ, r, e, p⟩ := h
  refine wpAny_Call_Name_kw (ld_glob I hg hm ?_ hdb)
  exact PySem.W.callWith_K0 I.kIn hk (run_gB (us := []) (vs := []) F hr hb (passesAt tk σ) I .nil ⟨μ, S, [], r, rfl, Pst.callee p⟩)
/-- with keywords: values are put in the parameters' order -/
def fCallK (cf : CF) (pm : List D → List D → Option (List D)) (a kw : FA) : FE := fun ρ S => (a ρ S).bind fun ds S1 => (kw ρ S1).bind fun zs S2 => match pm ds zs with
  | some qs => cf qs S2
  | none => .fail
end

/-! ### instances -/
section
variable {X : Cx} {W : WX} {k : Nat} {f C : Addr} {fd : FuncData} {ps : List Str} {cf : CF} {x m c : Str} {p pos apos : Pos} {e o : Expr} {es : List Expr} {fo : FE} {g : FA}
/-- a call of o.m, o an instance of the class c, cf its def's -/
def fMeth (mt : Str → Option CF) (m : Str) (o : FE) (a : FA) : FE := fun ρ S => (o ρ S).bind fun x S1 => match x with
  | .ref n => match S1[n]? with
    | some (.ins c fs) => match mt c, fs.lookup m with
      | some cf, none => (a ρ S1).bind fun ds S2 => cf (.ref n :: ds) S2
      | _, _ => .fail
    | _ => .fail
  | _ => .fail
/-- a class whose method m keeps a promise -/
def MethOk (X : Cx) (k : Nat) (m c : Str) (cf : CF) : Prop := ∃ C f fd ps, X.mg c = some (.ref C) ∧ Cls X.K C ∧ Meth X.K C m f ∧ FnG X.prog X.w X.K X.mg X.base k f fd ps (spD X.K X.mg cf) ∧ Binds X.K fd ps []
theorem se_meth {pl : Sem Bool} {mt : Str → Option CF} (ho : SE X W o fo) (hM : ∀ c cf, mt c = some cf → MethOk X k m c cf) (hr : Rm k X.A) (tk : Takes X W) (ha : SA X W (e :: es) g)
    (hst : starEach (e :: es) X.env = (false, eval e X.env) :: starEach es X.env) (hpl : (backTo pos (starEach es X.env)).any (·.1) = false)
    (ht : eval (.Call (.Attribute o m apos) (e :: es) [] pos) X.env = (do
      let ov ← eval o X.env
      standAt apos.atName
      let (f, first) ← holding [ov] (getMethod ov m pl)
      callWith pos f first (backTo pos (starEach (e :: es) X.env)) (backToKw pos (keywordEach [] X.env)))) :
    SE X W (.Call (.Attribute o m apos) (e :: es) [] pos) (fMeth mt m fo g) := by
  refine ⟨fun pins s σ H Q I h => ?_⟩
  obtain ⟨μ, S, ρ, r, en, p⟩ := h
  refine PySem.W.methodCall_KW (pl := pl) (thn (ho.run pins s σ H _ I (p.toE r en)) fun u s1 ⟨x, H1, I1, rx, d1, μ1, S1, r1, e1, rd, _, p1⟩ => ?_) ht
  cases d1 with
  | ref n =>
    simp only at p1
    split at p1
    · rename_i c fs hn
      split at p1
      · rename_i cf hc hl
        obtain ⟨C, f, fd, ps, hmC, cls, mt', F, hb⟩ := hM c cf hc
        obtain ⟨C', dx, vs, ho', hmC', rf⟩ := r1.obj n _ hn
        rw [hmC] at hmC'
        cases hmC'
        obtain ⟨hlt, ex⟩ := rd
        subst ex
        obtain rfl : u = Value.ref (μ1 n) := rx
        refine getmeth_ok I1 ho' cls mt' (rf.lookup_none hl) ?_
        refine PySem.W.callWith_K (first := [.ref (μ1 n)]) (h₀ := X.base) I1.ok.mod.kin mt'.kp (thn (ha.run pos pins s1 σ H1 _ I1 (p1.toA r1 e1)) fun us s2 ⟨vs', H2, I2, rv, ds, μ2, S2, r2, e2, rvs, f2, p2⟩ => ⟨I2.kIn, ?_⟩) hst hpl
        exact run_gB (us := .ref (μ1 n) :: us) (vs := .ref (μ1 n) :: vs') F hr hb (passesAt tk σ) I2 (.cons rfl rv) ⟨μ2, S2, .ref n :: ds, r2, ⟨_, _, rfl, ⟨Nat.lt_of_lt_of_le hlt f2.le, by rw [f2.agree n hlt]⟩, rvs⟩, p2.callee⟩
      · exact p1.elim
    · exact p1.elim
  | _ => exact p1.elim
theorem se_meth0 {pl : Sem Bool} {mt : Str → Option CF} (ho : SE X W o fo) (hM : ∀ c cf, mt c = some cf → MethOk X k m c cf) (hr : Rm k X.A) (tk : Takes X W)
    (ht : eval (.Call (.Attribute o m apos) [] [] pos) X.env = (do
      let ov ← eval o X.env
      standAt apos.atName
      let (f, first) ← holding [ov] (getMethod ov m pl)
      callWith pos f first (backTo pos (starEach [] X.env)) (backToKw pos (keywordEach [] X.env)))) :
    SE X W (.Call (.Attribute o m apos) [] [] pos) (fMeth mt m fo aNil) := by
  refine ⟨fun pins s σ H Q I h => ?_⟩
  obtain ⟨μ, S, ρ, r, en, p⟩ := h
  refine PySem.W.methodCall_KW (pl := pl) (thn (ho.run pins s σ H _ I (p.toE r en)) fun u s1 ⟨x, H1, I1, rx, d1, μ1, S1, r1, e1, rd, _, p1⟩ => ?_) ht
  cases d1 with
  | ref n =>
    simp only at p1
    split at p1
    · rename_i c fs hn
      split at p1
      · rename_i cf hc hl
        obtain ⟨C, f, fd, ps, hmC, cls, mt', F, hb⟩ := hM c cf hc
        obtain ⟨C', dx, vs, ho', hmC', rf⟩ := r1.obj n _ hn
        rw [hmC] at hmC'
        cases hmC'
        obtain ⟨hlt, ex⟩ := rd
        subst ex
        obtain rfl : u = Value.ref (μ1 n) := rx
        refine getmeth_ok I1 ho' cls mt' (rf.lookup_none hl) ?_
        exact PySem.W.callWith_K0 (first := [.ref (μ1 n)]) I1.kIn mt'.kp (run_gB (us := [.ref (μ1 n)]) (vs := [.ref (μ1 n)]) F hr hb (passesAt tk σ) I1 (.cons rfl .nil)
          ⟨μ1, S1, [.ref n], r1, ⟨_, _, rfl, ⟨hlt, rfl⟩, rfl⟩, Pst.callee p1⟩)
      · exact p1.elim
    · exact p1.elim
  | _ => exact p1.elim

/-- C(..), ini its __init__'s -/
def fMake (c : Str) (ini : CF) (a : FA) : FE := fun ρ S => (a ρ S).bind fun ds S1 => (ini (.ref S1.length :: ds) (S1 ++ [.ins c []])).bind fun d S2 => match d with
  | .non => .ok (.ref S1.length) S2
  | _ => .fail
theorem run_makeSD {pins : List (Addr × Obj)} {σ : St} {H : Hp} {s : Shared} {Q : VK} {us : List Value} {vs : List V} {sp : Sp} {E : XK} (M : Mk X.K C f) (F : FnG X.prog X.w X.K X.mg X.base k f fd ps sp) (hr : Rm (k + 1) X.A) (hb : Binds X.K fd ps [])
    (hx : PassesAt (L2.CX X.prog X.w) X σ E) (I : Inv X pins σ H s) (r : Vals vs us)
    (h : ∀ x dx, H x = none → H dx = none → dx ≠ x → sp (.ref x :: vs) (upd (upd H dx (.own x)) x (.ins C dx [])) (fun v H2 => v = .non ∧ Q (.ref x) H2) E) :
    wpAny (model X.prog X.w) X.A (call (.ref C) us) (EP X pins σ Q) X.xe s := by
  have hq := h (s.heap.objs.size + 1) s.heap.objs.size (I.hok.fresh (Nat.le_succ _)) (I.hok.fresh (Nat.le_refl _)) (Nat.ne_of_lt (Nat.lt_succ_self _))
  have I2 := Inv.made (C := C) I
  have r2 : Vals (V.ref (s.heap.objs.size + 1) :: vs) (Value.ref (s.heap.objs.size + 1) :: us) := .cons rfl r
  have hl : (Value.ref (s.heap.objs.size + 1) :: us ++ []).length = ps.length := by
    rw [List.append_nil, ← r2.length]
    exact F.len _ _ _ _ hq
  have hb' := hb _ (Value.ref (s.heap.objs.size + 1) :: us) I2.kIn hl
  rw [List.append_nil] at hb'
  refine wpAny_call (make_map (f := f) I.kIn M.makes M.init (beq_iff_eq.mp M.fn) (codeAny_mono (F.run _ X.stack _ _ ⟨Value.ref (s.heap.objs.size + 1) :: us, []⟩ (Value.ref (s.heap.objs.size + 1) :: us) _ _ E (hr.make C us [])
    (I2.env0.make C us []) hb' r2 hq) fun r s' hq' => ?_))
  cases r with
  | error e => exact hx pins _ _ e s' I2 hq'
  | ok fl =>
    cases fl with
    | ret u =>
      obtain ⟨v, H', I3, rv, ev, q3⟩ := I2.after hq'
      subst ev
      exact ⟨rv, ⟨V.ref (s.heap.objs.size + 1), H', I3, rfl, q3⟩⟩
    | next => exact False.elim hq'
    | brk => exact False.elim hq'
    | cont => exact False.elim hq'
/-- the new instance -/
theorem After.newIns {K : PySem.W.Frag} {mg : Str → Option Value} {μ : Nat → Addr} {S : Store} {H : Hp} (r : Rep K mg μ S H) {x dx : Addr} (hx : H x = none) (hdx : H dx = none) (hne : dx ≠ x) (hm : mg c = some (.ref C)) :
    After K mg μ S H (ext μ S.length x) (S ++ [.ins c []]) (upd (upd H dx (.own x)) x (.ins C dx [])) := by
  have f1 := After.tmp (u := .own x) r hdx
  have h2 : upd H dx (.own x) x = none := by rw [upd_ne (Ne.symm hne)]; exact hx
  exact f1.trans (After.new f1.rep h2 ⟨C, dx, [], upd_same, hm, rfl⟩)
theorem make_sp {K : PySem.W.Frag} {mg : Str → Option Value} {cf : CF} {μ : Nat → Addr} {S : Store} {H : Hp} {σ : St} {Q : VK} {ds : List D} {vs : List V} (r : Rep K mg μ S H) (rv : RepVs K μ H S.length ds vs) (hm : mg c = some (.ref C))
    (p : Pst K mg W σ ((cf (.ref S.length :: ds) (S ++ [.ins c []])).bind fun d S2 => match d with | .non => .ok (.ref S.length) S2 | _ => .fail) μ S H fun d μ' S' H' => ∀ v, RepV K μ' H' S'.length d v → Q v H') :
    ∀ x dx, H x = none → H dx = none → dx ≠ x → spD K mg cf (.ref x :: vs) (upd (upd H dx (.own x)) x (.ins C dx [])) (fun v H2 => v = .non ∧ Q (.ref x) H2) (fun c d H => W c d σ H) := by
  intro x dx hx hdx hne
  have f := After.newIns r hx hdx hne hm
  refine ⟨_, _, .ref S.length :: ds, f.rep, ⟨_, _, rfl, RepV.newRef, f.vals r rv⟩, Pst.callee ((Pst.bind (p.from f)).imp fun d μ' S' H' g q v rv' => ?_)⟩
  cases d with
  | non =>
    refine ⟨rv', ?_⟩
    have hS : S.length < (S ++ [MO.ins c []]).length := by simp
    have e2 : μ' S.length = x := by rw [g.agree _ hS, ext_same]
    exact Pst.end_ (x := D.ref S.length) g.rep q (.ref x) ⟨Nat.lt_of_lt_of_le hS g.le, by rw [e2]⟩
  | _ => exact q.elim
theorem se_make (M : Mk X.K C f) (F : FnG X.prog X.w X.K X.mg X.base k f fd ps (spD X.K X.mg cf)) (hr : Rm (k + 1) X.A) (hg : Gl X c) (hm : X.mg c = some (.ref C)) (hb : Binds X.K fd ps [])
    (tk : Takes X W) (ha : SA X W (e :: es) g) (hdb : (c == ("__debug__" : Str)) = false) (he : starEach (e :: es) X.env = (false, eval e X.env) :: starEach es X.env) (hpl : (backTo pos (starEach es X.env)).any (·.1) = false) :
    SE X W (.Call (.Name c p) (e :: es) [] pos) (fMake c cf g) := by
  refine ⟨fun pins s σ H Q I h => ?_⟩
  obtain ⟨μ, S, ρ, r, en, q⟩ := h
  refine wpAny_Call_Name_kw (ld_glob I hg hm ?_ hdb)
  refine PySem.W.callWith_K (h₀ := X.base) I.ok.mod.kin M.kp (thn (ha.run pos pins s σ H _ I (q.toA r en)) fun us s1 ⟨vs, H1, I1, rv, ds, μ1, S1, r1, e1, rd, _, p1⟩ => ⟨I1.kIn, ?_⟩) he hpl
  exact run_makeSD M F hr hb (passesAt tk σ) I1 rv (make_sp r1 rd hm p1)
theorem se_make0 (M : Mk X.K C f) (F : FnG X.prog X.w X.K X.mg X.base k f fd ps (spD X.K X.mg cf)) (hr : Rm (k + 1) X.A) (hg : Gl X c) (hm : X.mg c = some (.ref C)) (hb : Binds X.K fd ps [])
    (tk : Takes X W) (hdb : (c == ("__debug__" : Str)) = false) : SE X W (.Call (.Name c p) [] [] pos) (fMake c cf aNil) := by
  refine ⟨fun pins s σ H Q I h => ?_⟩
  obtain ⟨μ, S, ρ, r, en, q⟩ := h
  refine wpAny_Call_Name_kw (ld_glob I hg hm ?_ hdb)
  exact PySem.W.callWith_K0 I.kIn M.kp (run_makeSD (us := []) M F hr hb (passesAt tk σ) I .nil (make_sp (ds := []) r rfl hm q))

/-! ### fields -/
/-- o.f -/
def fFld (f : Str) (a : FE) : FE := fun ρ S => (a ρ S).bind fun x S1 => match x with
  | .ref n => match S1[n]? with
    | some (.ins _ fs) => match fs.lookup f with
      | some d => .ok d S1
      | none => .fail
    | _ => .fail
  | _ => .fail
/-- the classes that may have the field f -/
def FldOk (X : Cx) (cs : List Str) (f : Str) : Prop := ∀ c ∈ cs, ∀ C, X.mg c = some (.ref C) → Cls X.K C ∧ NoAttr X.K C f
def fFldC (cs : List Str) (f : Str) (a : FE) : FE := fun ρ S => (a ρ S).bind fun x S1 => match x with
  | .ref n => match S1[n]? with
    | some (.ins c fs) => if cs.contains c then match fs.lookup f with
        | some d => .ok d S1
        | none => .fail
      else .fail
    | _ => .fail
  | _ => .fail
theorem se_fld {cs : List Str} {fl : Str} (ho : SE X W o fo) (hF : FldOk X cs fl) (hb : attributeBase o fl X.env (eval o X.env) = eval o X.env) : SE X W (.Attribute o fl pos) (fFldC cs fl fo) := by
  refine ⟨fun pins s σ H Q I h => ?_⟩
  obtain ⟨μ, S, ρ, r, en, q⟩ := h
  refine attr_of hb (thn (ho.run pins s σ H _ I (q.toE r en)) fun u s1 ⟨x, H1, I1, rx, d1, μ1, S1, r1, e1, rd, _, p1⟩ => ?_)
  cases d1 with
  | ref n =>
    simp only at p1
    split at p1
    · rename_i c fs hn
      split at p1
      · rename_i hc
        split at p1
        · rename_i d hl
          obtain ⟨C, dx, vs, ho', hmC, rf⟩ := r1.obj n _ hn
          obtain ⟨cls, na⟩ := hF c (by simpa using hc) C hmC
          obtain ⟨hlt, ex⟩ := rd
          subst ex
          obtain rfl : u = Value.ref (μ1 n) := rx
          obtain ⟨y, hy, ry⟩ := rf.lookup hl
          exact getattr_ok I1 ho' cls na hy fun u' s2 I2 ru => ⟨y, H1, I2, ru, p1.end_ r1 y ry⟩
        · exact p1.elim
      · exact p1.elim
    · exact p1.elim
  | _ => exact p1.elim
end
end MP

namespace MP
open PySem L2

/-! ### statements -/
/-- an expression's value, then the rest; what it raises leaves at these slots -/
def withE {α : Type} (r : R α) (ρ : Rho) (k : α → Store → R Fl) : R Fl := match r with
  | .ok d S1 => k d S1
  | .exc c d S1 => .ok (.xc c d ρ) S1
  | .fail => .fail
@[simp] theorem withE_ok {α : Type} (d : α) (S : Store) (ρ : Rho) (k : α → Store → R Fl) : withE (.ok d S) ρ k = k d S := rfl
@[simp] theorem withE_exc {α : Type} (c : Str) (d : D) (S : Store) (ρ : Rho) (k : α → Store → R Fl) : withE (.exc c d S) ρ k = .ok (.xc c d ρ) S := rfl
@[simp] theorem withE_fail {α : Type} (ρ : Rho) (k : α → Store → R Fl) : withE (.fail : R α) ρ k = .fail := rfl
section
variable {K : PySem.W.Frag} {mg : Str → Option Value} {W : WX} {D0 : Ends} {σ : St} {μ μ1 : Nat → Addr} {S S1 : Store} {H H1 : Hp} {ρ : Rho}
theorem PsS.imp {α : Type} {r : R α} {G G' : α → (Nat → Addr) → Store → Hp → Prop} (h : PsS K mg r μ S H G) (hG : ∀ a μ' S' H', After K mg μ S H μ' S' H' → G a μ' S' H' → G' a μ' S' H') : PsS K mg r μ S H G' := by
  cases r with
  | ok a S' => exact fun μ' H' f => hG _ _ _ _ f (h μ' H' f)
  | _ => exact h
theorem PsS.from {α : Type} {r : R α} {G : α → (Nat → Addr) → Store → Hp → Prop} (h : PsS K mg r μ S H G) (f : After K mg μ S H μ1 S1 H1) : PsS K mg r μ1 S1 H1 G := by
  cases r with
  | ok a S' => exact fun μ' H' g => h μ' H' (f.trans g)
  | _ => exact h
theorem PsS.bind {α β : Type} {r : R α} {g : α → Store → R β} {G : β → (Nat → Addr) → Store → Hp → Prop} (h : PsS K mg (r.bind g) μ S H G) :
    PsS K mg r μ S H fun a μ1 S1 H1 => PsS K mg (g a S1) μ1 S1 H1 G := by
  cases r with
  | ok a S' => exact fun μ' H' f => PsS.from h f
  | _ => exact h
theorem PsS.end_ {α : Type} {x : α} {G : α → (Nat → Addr) → Store → Hp → Prop} (r : Rep K mg μ S H) (h : PsS K mg (.ok x S) μ S H G) : G x μ S H :=
  h μ H (After.refl r)
theorem PsS.withE {α : Type} {res : R α} {k : α → Store → R Fl} (r : Rep K mg μ S H) (e : REnv K μ H S.length ρ σ) (h : PsS K mg (withE res ρ k) μ S H (Flw K mg W D0)) :
    Pst K mg W σ res μ S H fun a μ1 S1 H1 => PsS K mg (k a S1) μ1 S1 H1 (Flw K mg W D0) := by
  cases res with
  | ok a S' => exact fun μ' H' f => PsS.from h f
  | exc c d S' => exact fun μ' H' C dd w f h1 h2 h3 => h μ' H' f σ C dd w (f.env r e) h1 h2 h3
  | fail => exact h
theorem PsS.stE {f : FE} {k : D → Store → R Fl} (r : Rep K mg μ S H) (e : REnv K μ H S.length ρ σ) (h : PsS K mg (MP.withE (f ρ S) ρ k) μ S H (Flw K mg W D0)) :
    tE K mg W f σ H fun v H1 => ∃ d μ1 S1, Rep K mg μ1 S1 H1 ∧ REnv K μ1 H1 S1.length ρ σ ∧ RepV K μ1 H1 S1.length d v ∧ After K mg μ S H μ1 S1 H1 ∧ PsS K mg (k d S1) μ1 S1 H1 (Flw K mg W D0) :=
  ⟨μ, S, ρ, r, e, (PsS.withE r e h).imp fun d μ' S' H' f q v rv => ⟨d, μ', S', f.rep, f.env r e, rv, f, q⟩⟩
theorem PsS.stA {f : FA} {k : List D → Store → R Fl} (r : Rep K mg μ S H) (e : REnv K μ H S.length ρ σ) (h : PsS K mg (MP.withE (f ρ S) ρ k) μ S H (Flw K mg W D0)) :
    tA K mg W f σ H fun v H1 => ∃ d μ1 S1, Rep K mg μ1 S1 H1 ∧ REnv K μ1 H1 S1.length ρ σ ∧ RepVs K μ1 H1 S1.length d v ∧ After K mg μ S H μ1 S1 H1 ∧ PsS K mg (k d S1) μ1 S1 H1 (Flw K mg W D0) :=
  ⟨μ, S, ρ, r, e, (PsS.withE r e h).imp fun d μ' S' H' f q v rv => ⟨d, μ', S', f.rep, f.env r e, rv, f, q⟩⟩
theorem PsS.stT {f : FE} {g : Bool → Store → R Fl} (r : Rep K mg μ S H) (e : REnv K μ H S.length ρ σ) (h : PsS K mg (MP.withE (f ρ S) ρ fun x S1 => match x with | .bl b => g b S1 | _ => .fail) μ S H (Flw K mg W D0)) :
    tT K mg W f σ H fun b H1 => ∃ μ1 S1, Rep K mg μ1 S1 H1 ∧ REnv K μ1 H1 S1.length ρ σ ∧ After K mg μ S H μ1 S1 H1 ∧ PsS K mg (g b S1) μ1 S1 H1 (Flw K mg W D0) :=
  ⟨μ, S, ρ, r, e, (PsS.withE r e h).imp fun d μ' S' H' f q => by
    cases d with
    | bl b => exact ⟨b, rfl, μ', S', f.rep, f.env r e, f, q⟩
    | _ => exact q.elim⟩
end
/-- the flows of a first part -/
def Fl.then_ (fl : Fl) (S : Store) (k : Rho → Store → R Fl) : R Fl := match fl with
  | .nx ρ => k ρ S
  | o => .ok o S
def sNil : FS := fun ρ S => .ok (.nx ρ) S
def sCons (a b : FS) : FS := fun ρ S => (a ρ S).bind fun fl S1 => fl.then_ S1 b
def sRet (a : FE) : FS := fun ρ S => withE (a ρ S) ρ fun d S1 => .ok (.rt d) S1
def sRetN : FS := fun _ S => .ok (.rt .non) S
def sExpr (a : FE) : FS := fun ρ S => withE (a ρ S) ρ fun _ S1 => .ok (.nx ρ) S1
def sIf (t : FE) (a b : FS) : FS := fun ρ S => withE (t ρ S) ρ fun x S1 => match x with
  | .bl k => (fun (k : Bool) S1 => if k = true then a ρ S1 else b ρ S1) k S1
  | _ => .fail
def sCt : FS := fun ρ S => .ok (.ct ρ) S
def sBk : FS := fun ρ S => .ok (.bk ρ) S
def sFail : FS := fun _ _ => .fail
section
variable {X : Cx} {W : WX} {pos pos' : Pos} {e c : Expr} {f : FE} {st : Stmt} {rest sa sb : List Stmt} {a b : FS}
theorem sss_nil : SSs X W [] sNil := PSs.imp pss_nil fun D0 σ H ⟨μ, S, ρ, r, e, p⟩ => p.end_ r σ e
theorem sss_cons (h1 : SS X W st a) (h2 : SSs X W rest b) : SSs X W (st :: rest) (sCons a b) :=
  PSs.imp (pss_cons h1 h2) fun D0 σ H h => by
    obtain ⟨μ, S, ρ, r, e, p⟩ := h
    refine ⟨μ, S, ρ, r, e, (PsS.bind p).imp fun fl μ1 S1 H1 f1 q => ?_⟩
    cases fl with
    | nx ρ1 => exact fun σ' e' => ⟨μ1, S1, ρ1, f1.rep, e', q⟩
    | bk ρ1 => exact PsS.end_ (x := Fl.bk ρ1) f1.rep q
    | ct ρ1 => exact PsS.end_ (x := Fl.ct ρ1) f1.rep q
    | rt d => exact PsS.end_ (x := Fl.rt d) f1.rep q
    | xc c d ρ1 => exact PsS.end_ (x := Fl.xc c d ρ1) f1.rep q
theorem ss_ret (h : SE X W e f) : SS X W (.Return (some e) pos) (sRet f) :=
  PS.imp (ps_ret h) fun D0 σ H h => by
    obtain ⟨μ, S, ρ, r, e, p⟩ := h
    refine (p.stE r e).mono fun v H1 h1 => ?_
    obtain ⟨d, μ1, S1, r1, e1, rv, f1, q⟩ := h1
    exact PsS.end_ (x := Fl.rt d) r1 q v rv
theorem ss_retN : SS X W (.Return none pos) sRetN := PS.imp ps_retN fun D0 σ H ⟨μ, S, ρ, r, e, p⟩ => p.end_ r _ rfl
theorem ss_expr (h : SE X W e f) (hs : swapsWith e none pos.line X.env = pure false) : SS X W (.Expr e pos) (sExpr f) :=
  PS.imp (ps_expr h hs) fun D0 σ H h => by
    obtain ⟨μ, S, ρ, r, e, p⟩ := h
    refine (p.stE r e).mono fun v H1 h1 => ?_
    obtain ⟨d, μ1, S1, r1, e1, rv, f1, q⟩ := h1
    exact PsS.end_ (x := Fl.nx ρ) r1 q σ e1
theorem ss_pass : SS X W (.Pass pos) sNil := PS.imp ps_pass fun D0 σ H ⟨μ, S, ρ, r, e, p⟩ => p.end_ r σ e
theorem ss_continue : SS X W (.Continue pos) sCt := PS.imp ps_continue fun D0 σ H ⟨μ, S, ρ, r, e, p⟩ => p.end_ r σ e
theorem ss_break : SS X W (.Break pos) sBk := PS.imp ps_break fun D0 σ H ⟨μ, S, ρ, r, e, p⟩ => p.end_ r σ e
theorem ss_fail : SS X W st sFail := PS.imp ps_never fun D0 σ H ⟨μ, S, ρ, r, e, p⟩ => p.elim
theorem ss_if (hc : ST X W c f) (ha : SSs X W sa a) (hb : SSs X W sb b) : SS X W (.If c sa sb pos) (sIf f a b) :=
  PS.imp (ps_if hc ha hb) fun D0 σ H h => by
    obtain ⟨μ, S, ρ, r, e, p⟩ := h
    refine (p.stT (g := fun (k : Bool) S1 => if k = true then a ρ S1 else b ρ S1) r e).mono fun k H1 h1 => ?_
    obtain ⟨μ1, S1, r1, e1, _, q⟩ := h1
    cases k with
    | true => rw [if_pos rfl]; exact ⟨μ1, S1, ρ, r1, e1, q⟩
    | false => rw [if_neg Bool.false_ne_true]; exact ⟨μ1, S1, ρ, r1, e1, q⟩
end

/-! ### targets -/
abbrev FT := D → Rho → Store → R Rho
abbrev FTs := List D → Rho → Store → R Rho
def gF (K : PySem.W.Frag) (mg : Str → Option Value) (f : FT) : TG := fun v σ H Q => ∃ μ S ρ d, Rep K mg μ S H ∧ REnv K μ H S.length ρ σ ∧ RepV K μ H S.length d v ∧ PsS K mg (f d ρ S) μ S H fun ρ' μ' S' H' => ∀ σ', REnv K μ' H' S'.length ρ' σ' → Q σ' H'
def gFs (K : PySem.W.Frag) (mg : Str → Option Value) (f : FTs) : TGs := fun v σ H Q => ∃ μ S ρ d, Rep K mg μ S H ∧ REnv K μ H S.length ρ σ ∧ RepVs K μ H S.length d v ∧ PsS K mg (f d ρ S) μ S H fun ρ' μ' S' H' => ∀ σ', REnv K μ' H' S'.length ρ' σ' → Q σ' H'
abbrev SG (X : Cx) (t : Expr) (f : FT) : Prop := PG X t (gF X.K X.mg f)
abbrev SGs (X : Cx) (t : List Expr) (f : FTs) : Prop := PGs X t (gFs X.K X.mg f)
def gNm (i : Nat) : FT := fun d ρ S => .ok (ρ.set i (some d)) S
def gsNil : FTs := fun ds ρ S => match ds with
  | [] => .ok ρ S
  | _ => .fail
def gsCons (a : FT) (b : FTs) : FTs := fun ds ρ S => match ds with
  | d :: r => (a d ρ S).bind fun ρ1 S1 => b r ρ1 S1
  | [] => .fail
/-- a tuple of just so many -/
def gTp (n : Nat) (b : FTs) : FT := fun d ρ S => match d with
  | .tup xs => if xs.length = n then b xs ρ S else .fail
  | _ => .fail
theorem REnv.set {K : PySem.W.Frag} {μ : Nat → Addr} {H : Hp} {N : Nat} {ρ : Rho} {σ : St} {d : D} {v : V} (e : REnv K μ H N ρ σ) (i : Nat) (h : RepV K μ H N d v) : REnv K μ H N (ρ.set i (some d)) (σ.set i (some v)) := by
  refine ⟨by simp [e.len], fun j x hj => ?_⟩
  by_cases c : i = j
  · subst c
    by_cases hl : i < ρ.length
    · rw [List.getElem?_set_self hl] at hj
      cases hj
      exact ⟨v, List.getElem?_set_self (by rw [← e.len]; exact hl), h⟩
    · rw [List.getElem?_eq_none (by simpa using hl)] at hj
      cases hj
  · rw [List.getElem?_set_ne c] at hj
    obtain ⟨w, a, b⟩ := e.at_ j x hj
    exact ⟨w, by rw [List.getElem?_set_ne c]; exact a, b⟩
section
variable {X : Cx} {W : WX} {pos pos' : Pos} {e c : Expr} {f fe fi : FE} {g : FT} {gs : FTs} {ts : List Expr} {t : Expr}
theorem gF.mono {K : PySem.W.Frag} {mg : Str → Option Value} {f : FT} {v : V} {σ : St} {H : Hp} {Q Q' : St → Hp → Prop} (h : gF K mg f v σ H Q) (k : ∀ σ H, Q σ H → Q' σ H) : gF K mg f v σ H Q' := by
  obtain ⟨μ, S, ρ, d, r, e, rv, p⟩ := h
  exact ⟨μ, S, ρ, d, r, e, rv, p.imp fun ρ' μ' S' H' _ q σ' e' => k σ' H' (q σ' e')⟩
theorem PG.imp {g g' : TG} (h : PG X t g) (k : ∀ v σ H Q, g' v σ H Q → g v σ H Q) : PG X t g' := ⟨fun pins s σ H v u Q I r q => h.run pins s σ H v u Q I r (k v σ H Q q)⟩
theorem PGs.imp {g g' : TGs} (h : PGs X ts g) (k : ∀ v σ H Q, g' v σ H Q → g v σ H Q) : PGs X ts g' := ⟨fun pins s σ H v u Q I r q => h.run pins s σ H v u Q I r (k v σ H Q q)⟩
theorem sg_name {i : Nat} {x : Str} (hN : X.N.Nodup) (hi : X.N[i]? = some x) (hx : Loc X.env.scope x) (hf : X.fn x = true ∨ X.env.scope.names.lookup x = some .local) : SG X (.Name x pos) (gNm i) :=
  PG.imp (pg_name hN hi hx hf) fun v σ H Q ⟨μ, S, ρ, d, r, e, rv, p⟩ => p.end_ r _ (e.set i rv)
theorem sgs_nil : SGs X [] gsNil :=
  PGs.imp pgs_nil fun v σ H Q ⟨μ, S, ρ, d, r, e, rv, p⟩ => by
    cases d with
    | nil => cases rv; exact ⟨rfl, PsS.end_ (x := ρ) r p σ e⟩
    | cons _ _ => exact p.elim
theorem sgs_cons (h1 : SG X t g) (h2 : SGs X ts gs) (hs : (assignEach (t :: ts) X.env).map (·.2) = assign t X.env :: (assignEach ts X.env).map (·.2)) : SGs X (t :: ts) (gsCons g gs) :=
  PGs.imp (pgs_cons h1 h2 hs) fun v σ H Q ⟨μ, S, ρ, d, r, e, rv, p⟩ => by
    cases d with
    | nil => exact p.elim
    | cons x xs =>
      obtain ⟨y, ys, ev, ry, rys⟩ := rv
      exact ⟨y, ys, ev, μ, S, ρ, x, r, e, ry, (PsS.bind p).imp fun ρ1 μ1 S1 H1 f1 q σ1 e1 => ⟨μ1, S1, ρ1, xs, f1.rep, e1, f1.vals r rys, q⟩⟩
theorem sg_tup {es : List Expr} {k n : Nat} (hc : X.calm = true) (h : SGs X es gs) (hn : (assignEach es X.env).length = n) (hst : (assignEach es X.env).findIdx? (·.1) = none) : SG X (.Tuple es k pos) (gTp n gs) :=
  PG.imp (pg_tup hc h hn hst) fun v σ H Q ⟨μ, S, ρ, d, r, e, rv, p⟩ => by
    cases d with
    | tup xs =>
      obtain ⟨a, vs, ev, hq, rvs⟩ := rv
      by_cases hl : xs.length = n
      · have p' : PsS X.K X.mg (if xs.length = n then gs xs ρ S else .fail) μ S H _ := p
        rw [if_pos hl] at p'
        exact ⟨a, vs, ev, hq, by rw [← rvs.length, hl], μ, S, ρ, xs, r, e, rvs, p'⟩
      · have p' : PsS X.K X.mg (if xs.length = n then gs xs ρ S else .fail) μ S H _ := p
        rw [if_neg hl] at p'
        exact p'.elim
    | _ => exact p.elim
/-- what may not raise here -/
def noX {α β : Type} (r : R α) (k : α → Store → R β) : R β := match r with
  | .ok d S1 => k d S1
  | _ => .fail
theorem PsS.noX {K : PySem.W.Frag} {mg : Str → Option Value} {W : WX} {σ : St} {μ : Nat → Addr} {S : Store} {H : Hp} {α β : Type} {res : R α} {k : α → Store → R β} {G : β → (Nat → Addr) → Store → Hp → Prop} (h : PsS K mg (noX res k) μ S H G) :
    Pst K mg W σ res μ S H fun a μ1 S1 H1 => PsS K mg (k a S1) μ1 S1 H1 G := by
  cases res with
  | ok a S' => exact fun μ' H' f => PsS.from h f
  | exc c d S' => exact h.elim
  | fail => exact h
/-- o[i] = v -/
abbrev Op3 := D → D → D → Store → Option Store
def r3 (K : PySem.W.Frag) (mg : Str → Option Value) (f : Op3) : TSet := fun o i v H Q => ∃ μ S d1 d2 d3 S', Rep K mg μ S H ∧ RepV K μ H S.length d1 o ∧ RepV K μ H S.length d2 i ∧ RepV K μ H S.length d3 v ∧ f d1 d2 d3 S = some S' ∧ ∀ μ' H', After K mg μ S H μ' S' H' → Q H'
def gSb (f : Op3) (o i : FE) : FT := fun d ρ S => noX (o ρ S) fun x S1 => noX (i ρ S1) fun y S2 => match f x y d S2 with
  | some S3 => .ok ρ S3
  | none => .fail
theorem sg_sub {a b : Expr} {fa fb : FE} {f : Op3} (ha : SE X W a fa) (hb : SE X W b fb) (ho : PSet X (r3 X.K X.mg f))
    (hs : ∀ v, assign (.Subscript a b pos) X.env v = (do
      let ov ← holding [v] (eval a X.env)
      let iv ← holding [v, ov] (eval b X.env)
      standAt pos
      holding [v, ov, iv] (setItem ov iv v)
      release [v, ov, iv] [])) : SG X (.Subscript a b pos) (gSb f fa fb) :=
  PG.imp (pg_sub ha hb ho hs) fun v σ H Q ⟨μ, S, ρ, d, r, e, rv, p⟩ => by
    refine ⟨μ, S, ρ, r, e, (PsS.noX p).imp fun x μ1 S1 H1 f1 p1 o ro => ?_⟩
    refine ⟨μ1, S1, ρ, f1.rep, f1.env r e, (PsS.noX p1).imp fun y μ2 S2 H2 f2 p2 i ri => ?_⟩
    cases hf : f x y d S2 with
    | none => simp only [hf] at p2; exact p2.elim
    | some S3 =>
      simp only [hf] at p2
      have e2 := f2.env f1.rep (f1.env r e)
      exact ⟨μ2, S2, x, y, d, S3, f2.rep, f2.val f1.rep ro, ri, f2.val f1.rep (f1.val r rv), hf, fun μ3 H3 f3 => p2 μ3 H3 f3 σ (f3.env f2.rep e2)⟩

/-! ### assignments -/
def sAsg (a : FE) (g : FT) : FS := fun ρ S => withE (a ρ S) ρ fun d S1 => noX (g d ρ S1) fun ρ' S2 => .ok (.nx ρ') S2
theorem asg_read {g : FT} {D0 : Ends} {σ : St} {H : Hp} {K : PySem.W.Frag} {mg : Str → Option Value} (h : tS K mg W (sAsg f g) D0 σ H) : tAsg (tE K mg W f) (gF K mg g) D0 σ H := by
  obtain ⟨μ, S, ρ, r, e, p⟩ := h
  refine (p.stE r e).mono fun v H1 h1 => ?_
  obtain ⟨d, μ1, S1, r1, e1, rv, f1, q⟩ := h1
  refine ⟨μ1, S1, ρ, d, r1, e1, rv, ?_⟩
  cases hg : g d ρ S1 with
  | ok ρ' S2 =>
    simp only [hg, noX] at q
    exact fun μ2 H2 f2 σ' e' => q μ2 H2 f2 σ' e'
  | exc c d S2 => simp only [hg, noX] at q; exact q.elim
  | fail => simp only [hg, noX] at q; exact q.elim
theorem ss_asg {g : FT} (he : SE X W e f) (hg : SG X t g) (hs : swapsWithSole [t] e pos.line X.env = pure false) (hw : swappedStores [t] e X.env = pure none)
    (h1 : (assignEach [t] X.env).map (·.2) = [assign t X.env]) : SS X W (.Assign [t] e pos) (sAsg f g) :=
  PS.imp (ps_asg he hg hs hw h1) fun D0 σ H h => asg_read h
theorem ss_set {i : Nat} {x : Str} (hN : X.N.Nodup) (hi : X.N[i]? = some x) (hx : Loc X.env.scope x) (he : SE X W e f) (hs : swapsWith e (some (.Name x pos')) pos.line X.env = pure false) (hf : X.fn x = true ∨ X.env.scope.names.lookup x = some .local) :
    SS X W (.Assign [.Name x pos'] e pos) (sAsg f (gNm i)) :=
  PS.imp (ps_set hN hi hx he hs hf) fun D0 σ H h => by
    have h2 := asg_read h
    obtain ⟨μ, S, ρ, r, e, p⟩ := h2
    exact ⟨μ, S, ρ, r, e, p.imp fun d μ' S' H' _ q v rv => by
      obtain ⟨μ1, S1, ρ1, d1, r1, e1, rv1, q1⟩ := q v rv
      exact q1.end_ r1 _ (e1.set i rv1)⟩
/-- two, three plain names at once -/
def sPar (is : List Nat) (a : FA) : FS := fun ρ S => withE (a ρ S) ρ fun ds S1 => if ds.length = is.length then .ok (.nx ((is.zip ds).foldl (fun ρ p => ρ.set p.1 (some p.2)) ρ)) S1 else .fail
theorem ss_par {i j : Nat} {x y : Str} {a b : Expr} {fa : FA} {px py pt : Pos} {kt k2 pt2} (hc : X.calm = true) (hN : X.N.Nodup) (hi : X.N[i]? = some x) (hj : X.N[j]? = some y) (hij : i ≠ j)
    (hx : X.env.scope.names.lookup x = some .local) (hy : X.env.scope.names.lookup y = some .local) (ha : SA X W [a, b] fa)
    (hw : swappedStores [.Tuple [.Name x px, .Name y py] kt pt] (.Tuple [a, b] k2 pt2) X.env = pure (some [x, y]))
    (hs : swapsWithSole [.Tuple [.Name x px, .Name y py] kt pt] (.Tuple [a, b] k2 pt2) pos.line X.env = pure false) :
    SS X W (.Assign [.Tuple [.Name x px, .Name y py] kt pt] (.Tuple [a, b] k2 pt2) pos) (sPar [i, j] fa) :=
  PS.imp (ps_par hc hN hi hj hij hx hy ha hw hs) fun D0 σ H h => by
    obtain ⟨μ, S, ρ, r, e, p⟩ := h
    refine (p.stA r e).mono fun v H1 h1 => ?_
    obtain ⟨d, μ1, S1, r1, e1, rv, f1, q⟩ := h1
    split at q
    · rename_i hl
      match d, hl with
      | [d1, d2], _ =>
        obtain ⟨v1, _, ev, rv1, v2, _, ev2, rv2, ev3⟩ := rv
        subst ev3 ev2 ev
        exact ⟨v1, v2, rfl, PsS.end_ (x := Fl.nx _) r1 q _ ((e1.set i rv1).set j rv2)⟩
    · exact q.elim
theorem ss_par3 {i j l : Nat} {x y z : Str} {a b c : Expr} {fa : FA} {px py pz pt : Pos} {kt k2 pt2} (hc : X.calm = true) (hN : X.N.Nodup) (hi : X.N[i]? = some x) (hj : X.N[j]? = some y) (hl : X.N[l]? = some z) (hij : i ≠ j) (hil : i ≠ l) (hjl : j ≠ l)
    (hx : X.env.scope.names.lookup x = some .local) (hy : X.env.scope.names.lookup y = some .local) (hz : X.env.scope.names.lookup z = some .local) (ha : SA X W [a, b, c] fa)
    (hw : swappedStores [.Tuple [.Name x px, .Name y py, .Name z pz] kt pt] (.Tuple [a, b, c] k2 pt2) X.env = pure (some [x, y, z]))
    (hs : swapsWithSole [.Tuple [.Name x px, .Name y py, .Name z pz] kt pt] (.Tuple [a, b, c] k2 pt2) pos.line X.env = pure false) :
    SS X W (.Assign [.Tuple [.Name x px, .Name y py, .Name z pz] kt pt] (.Tuple [a, b, c] k2 pt2) pos) (sPar [i, j, l] fa) :=
  PS.imp (ps_par3 hc hN hi hj hl hij hil hjl hx hy hz ha hw hs) fun D0 σ H h => by
    obtain ⟨μ, S, ρ, r, e, p⟩ := h
    refine (p.stA r e).mono fun v H1 h1 => ?_
    obtain ⟨d, μ1, S1, r1, e1, rv, f1, q⟩ := h1
    split at q
    · rename_i hl
      match d, hl with
      | [d1, d2, d3], _ =>
        obtain ⟨v1, _, ev, rv1, v2, _, ev2, rv2, v3, _, ev3, rv3, ev4⟩ := rv
        subst ev4 ev3 ev2 ev
        exact ⟨v1, v2, v3, rfl, PsS.end_ (x := Fl.nx _) r1 q _ (((e1.set i rv1).set j rv2).set l rv3)⟩
    · exact q.elim
/-- name op= e -/
def sAug (i : Nat) (op : Op2) (a : FE) : FS := fun ρ S => match ρ[i]? with
  | some (some x) => withE (a ρ S) ρ fun y S1 => match op x y S1 with
    | some (z, S2) => .ok (.nx (ρ.set i (some z))) S2
    | none => .fail
  | _ => .fail
theorem ss_aug {i : Nat} {x : Str} {op : Operator} {o2 : Op2} (hN : X.N.Nodup) (hi : X.N[i]? = some x) (hx : Loc X.env.scope x) (he : SE X W e f) (ho : OpR X (inplaceOp op) (r2 X.K X.mg o2)) (hf : X.fn x = true ∨ X.env.scope.names.lookup x = some .local) :
    SS X W (.AugAssign (.Name x pos') op e pos) (sAug i o2 f) :=
  PS.imp (ps_aug (ti := r2 X.K X.mg o2) hN hi hx he ho hf) fun D0 σ H h => by
    obtain ⟨μ, S, ρ, r, e, p⟩ := h
    unfold sAug at p
    split at p
    · rename_i x hx
      obtain ⟨v, h1, rv⟩ := e.at_ i x hx
      refine ⟨v, h1, (p.stE r e).mono fun w H1 h2 => ?_⟩
      obtain ⟨d, μ1, S1, r1, e1, rw', f1, q⟩ := h2
      cases hf : o2 x d S1 with
      | none => simp only [hf] at q; exact q.elim
      | some zs =>
        obtain ⟨z, S2⟩ := zs
        simp only [hf] at q
        exact ⟨μ1, S1, x, d, r1, f1.val r rv, rw', z, S2, hf, fun μ2 H2 v2 f2 rv2 => q μ2 H2 f2 _ ((f2.env r1 e1).set i rv2)⟩
    · exact p.elim
end

/-! ### while -/
def whileL (t : FE) (b : FS) : Nat → Rho → Store → R Fl
  | 0, _, _ => .fail
  | n + 1, ρ, S => withE (t ρ S) ρ fun x S1 => match x with
    | .bl k => (fun (k : Bool) S1 => if k = true then (b ρ S1).bind fun fl S2 => match fl with
        | .nx ρ1 => whileL t b n ρ1 S2
        | .ct ρ1 => whileL t b n ρ1 S2
        | .bk ρ1 => .ok (.nx ρ1) S2
        | o => .ok o S2
      else .ok (.nx ρ) S1) k S1
    | _ => .fail
def sWhile (n : Nat) (t : FE) (b : FS) : FS := fun ρ S => whileL t b n ρ S
theorem ss_while {X : Cx} {W : WX} {pos : Pos} {c : Expr} {sb : List Stmt} {f : FE} {b : FS} {n : Nat} (hp : PassesOwn (model X.prog X.w) X.A X.env X.xe) (hc : ST X W c f) (hb : SSs X W sb b) : SS X W (.While c sb [] pos) (sWhile n f b) :=
  PS.imp (ps_while hp hc hb) fun D0 σ H h => by
    obtain ⟨μ, S, ρ, r, e, p⟩ := h
    refine ⟨fun m σ H => ∃ μ S ρ, Rep X.K X.mg μ S H ∧ REnv X.K μ H S.length ρ σ ∧ PsS X.K X.mg (whileL f b m ρ S) μ S H (Flw X.K X.mg W D0), ⟨n, μ, S, ρ, r, e, p⟩, ?_⟩
    rintro m σ1 H1 ⟨μ1, S1, ρ1, r1, e1, p1⟩
    cases m with
    | zero => exact p1.elim
    | succ m =>
      refine (p1.stT (g := fun (k : Bool) S1 => if k = true then (b ρ1 S1).bind fun fl S2 => match fl with
        | .nx ρ1 => whileL f b m ρ1 S2
        | .ct ρ1 => whileL f b m ρ1 S2
        | .bk ρ1 => .ok (.nx ρ1) S2
        | o => .ok o S2
      else .ok (.nx ρ1) S1) r1 e1).mono fun k H2 h2 => ?_
      obtain ⟨μ2, S2, r2, e2, _, q⟩ := h2
      cases k with
      | false => rw [if_neg Bool.false_ne_true]; exact PsS.end_ (x := Fl.nx ρ1) r2 q σ1 e2
      | true =>
        rw [if_pos rfl]
        have q : PsS X.K X.mg ((b ρ1 S2).bind fun fl S2 => match fl with
          | .nx ρ1 => whileL f b m ρ1 S2
          | .ct ρ1 => whileL f b m ρ1 S2
          | .bk ρ1 => .ok (.nx ρ1) S2
          | o => .ok o S2) μ2 S2 H2 (Flw X.K X.mg W D0) := q
        refine ⟨fun σ' H' => ∃ μ S ρ, Rep X.K X.mg μ S H' ∧ REnv X.K μ H' S.length ρ σ' ∧ PsS X.K X.mg (whileL f b m ρ S) μ S H' (Flw X.K X.mg W D0), fun σ' H' z => ⟨m, Nat.lt_succ_self m, z⟩, ?_⟩
        refine ⟨μ2, S2, ρ1, r2, e2, (PsS.bind q).imp fun fl μ3 S3 H3 f3 q3 => ?_⟩
        cases fl with
        | nx ρ3 => exact fun σ' e' => ⟨μ3, S3, ρ3, f3.rep, e', q3⟩
        | ct ρ3 => exact fun σ' e' => ⟨μ3, S3, ρ3, f3.rep, e', q3⟩
        | bk ρ3 => exact PsS.end_ (x := Fl.nx ρ3) f3.rep q3
        | rt d => exact PsS.end_ (x := Fl.rt d) f3.rep q3
        | xc c d ρ3 => exact PsS.end_ (x := Fl.xc c d ρ3) f3.rep q3

/-! ### what is walked -/
/-- a source: the values that it leans on, its item at a turn (none: it isn't told), how many at the start -/
structure Src where
  ds : List D
  item : Store → Nat → Option (Option D)
  cnt : Nat
def SrcOk (K : PySem.W.Frag) (mg : Str → Option Value) (J : It) (src : Src) (vs : List V) : Prop := ∀ i μ S H, Rep K mg μ S H → RepVs K μ H S.length src.ds vs → match src.item S i with
  | some none => J.stop i H
  | some (some x) => J.go i H ∧ ∀ v H', J.yld i H v H' → After K mg μ S H μ S H' ∧ RepV K μ H' S.length x v
  | none => True
abbrev FI := Rho → Store → R Src
def tI (K : PySem.W.Frag) (mg : Str → Option Value) (W : WX) (f : FI) : TI := fun σ H Q => ∃ μ S ρ, Rep K mg μ S H ∧ REnv K μ H S.length ρ σ ∧ Pst K mg W σ (f ρ S) μ S H fun src μ' S' H' => ∀ J vs, RepVs K μ' H' S'.length src.ds vs → SrcOk K mg J src vs → Q J H'
abbrev SI (X : Cx) (W : WX) (tg iter : Expr) (f : FI) : Prop := PI X tg iter (tI X.K X.mg W f)
theorem PI.imp {X : Cx} {tg iter : Expr} {t t' : TI} (h : PI X tg iter t) (k : ∀ σ H Q, t' σ H Q → t σ H Q) : PI X tg iter t' := ⟨fun pins s σ H R I q => h.run pins s σ H R I (k σ H R q)⟩
def forL (item : Store → Nat → Option (Option D)) (g : FT) (b : FS) : Nat → Nat → Rho → Store → R Fl
  | 0, _, _, _ => .fail
  | n + 1, i, ρ, S => match item S i with
    | none => .fail
    | some none => .ok (.nx ρ) S
    | some (some x) => noX (g x ρ S) fun ρ1 S1 => (b ρ1 S1).bind fun fl S2 => match fl with
      | .nx ρ2 => forL item g b n (i + 1) ρ2 S2
      | .ct ρ2 => forL item g b n (i + 1) ρ2 S2
      | .bk ρ2 => .ok (.nx ρ2) S2
      | o => .ok o S2
def sFor (fi : FI) (g : FT) (b : FS) : FS := fun ρ S => withE (fi ρ S) ρ fun src S1 => forL src.item g b (src.cnt + 1) 0 ρ S1
theorem ss_for {X : Cx} {W : WX} {pos : Pos} {tg iter : Expr} {sb : List Stmt} {fi : FI} {g : FT} {b : FS} (hp : PassesOwn (model X.prog X.w) X.A X.env X.xe) (hc : X.calm = true) (hi : SI X W tg iter fi) (hg : SG X tg g) (hb : SSs X W sb b)
    (hs : ∀ x, foldedSetIterable iter X.env x = pure x) : SS X W (.For tg iter sb [] pos) (sFor fi g b) :=
  PS.imp (ps_for hp hc hi hg hb hs) fun D0 σ H h => by
    obtain ⟨μ, S, ρ, r, e, p⟩ := h
    refine ⟨μ, S, ρ, r, e, (PsS.withE r e p).imp fun src μ1 S1 H1 f1 q J vs rvs ok => ?_⟩
    refine ⟨fun i m σ H => ∃ μ S ρ, Rep X.K X.mg μ S H ∧ REnv X.K μ H S.length ρ σ ∧ RepVs X.K μ H S.length src.ds vs ∧ PsS X.K X.mg (forL src.item g b m i ρ S) μ S H (Flw X.K X.mg W D0), ⟨src.cnt + 1, μ1, S1, ρ, f1.rep, f1.env r e, rvs, q⟩, ?_⟩
    rintro i m σ2 H2 ⟨μ2, S2, ρ2, r2, e2, rv2, p2⟩
    cases m with
    | zero => exact p2.elim
    | succ m =>
      have z := ok i μ2 S2 H2 r2 rv2
      unfold forL at p2
      cases hit : src.item S2 i with
      | none => simp only [hit] at p2; exact p2.elim
      | some o =>
        cases o with
        | none =>
          simp only [hit] at z p2
          exact .inl ⟨z, PsS.end_ (x := Fl.nx ρ2) r2 p2 σ2 e2⟩
        | some x =>
          simp only [hit] at z p2
          obtain ⟨go, yl⟩ := z
          refine .inr ⟨go, fun σ' H' => ∃ μ S ρ, Rep X.K X.mg μ S H' ∧ REnv X.K μ H' S.length ρ σ' ∧ RepVs X.K μ H' S.length src.ds vs ∧ PsS X.K X.mg (forL src.item g b m (i + 1) ρ S) μ S H' (Flw X.K X.mg W D0), fun σ' H' w => ⟨m, Nat.lt_succ_self m, w⟩, fun v H3 y => ?_⟩
          obtain ⟨f3, rv⟩ := yl v H3 y
          have p3 := p2.from f3
          refine ⟨μ2, S2, ρ2, x, f3.rep, f3.env r2 e2, rv, (PsS.noX (W := W) (σ := σ2) p3 |> fun q3 => ?_)⟩
          cases hg : g x ρ2 S2 with
          | ok ρ4 S4 =>
            rw [hg] at q3
            intro μ4 H4 f4 σ4 e4
            refine ⟨μ4, S4, ρ4, f4.rep, e4, (PsS.bind (q3 μ4 H4 f4)).imp fun fl μ5 S5 H5 f5 q5 => ?_⟩
            have rvs5 := f5.vals f4.rep (f4.vals f3.rep (f3.vals r2 rv2))
            cases fl with
            | nx ρ5 => exact fun σ' e' => ⟨μ5, S5, ρ5, f5.rep, e', rvs5, q5⟩
            | ct ρ5 => exact fun σ' e' => ⟨μ5, S5, ρ5, f5.rep, e', rvs5, q5⟩
            | bk ρ5 => exact PsS.end_ (x := Fl.nx ρ5) f5.rep q5
            | rt d => exact PsS.end_ (x := Fl.rt d) f5.rep q5
            | xc c d ρ5 => exact PsS.end_ (x := Fl.xc c d ρ5) f5.rep q5
          | exc c d S4 => simp only [hg, noX] at p3; exact p3.elim
          | fail => simp only [hg, noX] at p3; exact p3.elim
end MP

namespace MP
open PySem L2

/-! ### sources -/
def srcOf (S : Store) : D → Option Src
  | .tup xs => some ⟨[.tup xs], fun _ i => some xs[i]?, xs.length⟩
  | .rl xs => some ⟨[.rl xs], fun _ i => some xs[i]?, xs.length⟩
  | .ref n => match S[n]? with
    | some (.lst xs) => some ⟨[.ref n], fun S i => match S[n]? with | some (.lst ys) => some ys[i]? | _ => none, xs.length⟩
    | _ => none
  | .str x => some ⟨[], fun _ i => some (x.cps[i]?.map fun c => .str ⟨#[c]⟩), x.cps.size⟩
  | _ => none
def fIter (a : FE) : FI := fun ρ S => (a ρ S).bind fun d S1 => match srcOf S1 d with
  | some s => .ok s S1
  | none => .fail
section
variable {X : Cx} {W : WX} {tg e a b c : Expr} {f : FE} {p pos : Pos}
theorem pi_any {te : TE} (he : PE X e te) : PI X tg e (fun σ H R => te σ H fun x H1 => (∃ a, x = .ref a ∧ (∃ xs, SqL X.K H1 a xs) ∧ R (Itl X.K a) H1) ∨ (∃ a, x = .ref a ∧ (∃ xs, SqT X.K H1 a xs) ∧ R (Itt X.K a) H1) ∨ (∃ y, x = .str y ∧ R (Its y) H1)) := by
  refine ⟨fun pins s σ H R I h => ?_⟩
  refine thn (he.run pins s σ H _ I h) fun v s1 ⟨x, H1, I1, r1, q1⟩ => ?_
  rcases q1 with ⟨a, e, hq, q⟩ | ⟨a, e, hq, q⟩ | ⟨y, e, q⟩
  · subst e
    cases r1
    obtain ⟨xs, hq⟩ := hq
    obtain ⟨its, rv, p, hz⟩ := I1.list hq
    refine wpAny_pyIter_list p.isList ?_
    refine ⟨s1.heap.objs.size, [s1.heap.objs.size], _, _, H1, rfl, I1.kept (t' := s1.toks) fun b o e => Heap.get?_push_of_some _ e, turn_list a _, ⟨_, Heap.get?_push_size _ rfl, rfl, rfl⟩, fun b hb => ?_, q⟩
    have e : b = s1.heap.objs.size := by simpa using hb
    subst e
    exact I1.fpOk (Nat.le_refl _) (I1.hok.fresh (Nat.le_refl _))
  · subst e
    cases r1
    obtain ⟨xs, hq⟩ := hq
    obtain ⟨its, rv, p, hz⟩ := I1.tuple hq
    refine wpAny_pyIter_tuple (show s1.heap.IsTuple a its.toArray from p) ?_
    refine ⟨s1.heap.objs.size, [s1.heap.objs.size], _, _, H1, rfl, I1.kept (t' := s1.toks) fun b o e => Heap.get?_push_of_some _ e, turn_tuple a _, ⟨_, Heap.get?_push_size _ rfl, rfl, rfl⟩, fun b hb => ?_, q⟩
    have e : b = s1.heap.objs.size := by simpa using hb
    subst e
    exact I1.fpOk (Nat.le_refl _) (I1.hok.fresh (Nat.le_refl _))
  · subst e
    obtain ⟨t, rfl⟩ := r1
    cases ha : y.cps.all (· < 128)
    · exact wpAny_pyIter_wide ha (pi_one (tk := s1.toks) I1 _ (turn_str _ y t "str_iterator" (.inr rfl)) ⟨_, Heap.get?_push_size _ rfl, rfl, rfl⟩ q)
    · exact wpAny_pyIter_ascii ha (pi_one (tk := s1.toks) I1 _ (turn_str _ y t "str_ascii_iterator" (.inl rfl)) ⟨_, Heap.get?_push_size _ rfl, rfl, rfl⟩ q)
theorem seqT_ok {K : PySem.W.Frag} {mg : Str → Option Value} {a : Addr} {xs : List D} {n : Nat} : SrcOk K mg (Itt K a) ⟨[.tup xs], fun _ i => some xs[i]?, n⟩ [.ref a] := by
  intro i μ S H r rv
  obtain ⟨v, _, ev, ⟨a', vs, ea, hq, hv⟩, _⟩ := rv
  cases ev
  cases ea
  show match some xs[i]? with | some none => _ | some (some x) => _ | none => True
  cases hi : xs[i]? with
  | none => exact ⟨vs, hq, by rw [← hv.length]; exact List.getElem?_eq_none_iff.mp hi⟩
  | some x =>
    obtain ⟨y, hy, ry⟩ := hv.get hi
    refine ⟨⟨vs, y, hq, hy⟩, fun v H' ⟨e, yl⟩ => ?_⟩
    subst e
    have := yl vs hq
    rw [hy] at this
    cases this
    exact ⟨After.refl r, ry⟩
theorem seqL_ok {K : PySem.W.Frag} {mg : Str → Option Value} {a : Addr} {xs : List D} {n : Nat} : SrcOk K mg (Itl K a) ⟨[.rl xs], fun _ i => some xs[i]?, n⟩ [.ref a] := by
  intro i μ S H r rv
  obtain ⟨v, _, ev, ⟨a', vs, ea, hq, hv⟩, _⟩ := rv
  cases ev
  cases ea
  show match some xs[i]? with | some none => _ | some (some x) => _ | none => True
  cases hi : xs[i]? with
  | none => exact ⟨vs, hq.sqL, by rw [← hv.length]; exact List.getElem?_eq_none_iff.mp hi⟩
  | some x =>
    obtain ⟨y, hy, ry⟩ := hv.get hi
    refine ⟨⟨vs, y, hq.sqL, hy⟩, fun v H' ⟨e, yl⟩ => ?_⟩
    subst e
    have := yl vs hq.sqL
    rw [hy] at this
    cases this
    exact ⟨After.refl r, ry⟩
theorem seqM_ok {K : PySem.W.Frag} {mg : Str → Option Value} {a : Addr} {n m : Nat} : SrcOk K mg (Itl K a) ⟨[.ref n], fun S i => match S[n]? with | some (.lst ys) => some ys[i]? | _ => none, m⟩ [.ref a] := by
  intro i μ S H r rv
  obtain ⟨v, _, ev, ⟨hlt, ea⟩, _⟩ := rv
  cases ev
  cases ea
  show match (match S[n]? with | some (.lst ys) => some ys[i]? | _ => none) with | some none => _ | some (some x) => _ | none => True
  split
  · rename_i heq
    split at heq
    · rename_i ys hn
      obtain ⟨vs, q, hv⟩ := r.lst hn
      exact ⟨vs, SqL.of q, by rw [← hv.length]; exact List.getElem?_eq_none_iff.mp (Option.some.inj heq)⟩
    · cases heq
  · rename_i x heq
    split at heq
    · rename_i ys hn
      obtain ⟨vs, q, hv⟩ := r.lst hn
      obtain ⟨y, hy, ry⟩ := hv.get (Option.some.inj heq)
      refine ⟨⟨vs, y, SqL.of q, hy⟩, fun v H' ⟨e, yl⟩ => ?_⟩
      subst e
      have := yl vs (SqL.of q)
      rw [hy] at this
      cases this
      exact ⟨After.refl r, ry⟩
    · cases heq
  · trivial
theorem str_ok {K : PySem.W.Frag} {mg : Str → Option Value} {x : Str} {n : Nat} : SrcOk K mg (Its x) ⟨[], fun _ i => some (x.cps[i]?.map fun c => .str ⟨#[c]⟩), n⟩ [] := by
  intro i μ S H r rv
  show match some (x.cps[i]?.map fun c => D.str ⟨#[c]⟩) with | some none => _ | some (some x) => _ | none => True
  cases hi : x.cps[i]? with
  | none => exact Array.getElem?_eq_none_iff.mp hi
  | some c =>
    refine ⟨(Array.getElem?_eq_some_iff.mp hi).1, fun v H' ⟨e, c', hc, ev⟩ => ?_⟩
    subst e
    rw [hi] at hc
    cases hc
    exact ⟨After.refl r, ev⟩
theorem si_any (he : SE X W e f) : SI X W tg e (fIter f) :=
  PI.imp (pi_any he) fun σ H Q h => by
    obtain ⟨μ, S, ρ, r, en, p⟩ := h
    refine (p.toE r en).mono fun x H1 h1 => ?_
    obtain ⟨d, μ1, S1, r1, e1, rx, _, q⟩ := h1
    cases hs : srcOf S1 d with
    | none => simp only [hs] at q; exact q.elim
    | some src =>
      simp only [hs] at q
      have q := q.end_ r1
      cases d with
      | tup xs =>
        cases hs
        obtain ⟨a, vs, ex, hq, hv⟩ := rx
        subst ex
        exact .inr (.inl ⟨a, rfl, ⟨vs, hq⟩, q _ [.ref a] ⟨_, _, rfl, ⟨a, vs, rfl, hq, hv⟩, rfl⟩ seqT_ok⟩)
      | rl xs =>
        cases hs
        obtain ⟨a, vs, ex, hq, hv⟩ := rx
        subst ex
        exact .inl ⟨a, rfl, ⟨vs, hq.sqL⟩, q _ [.ref a] ⟨_, _, rfl, ⟨a, vs, rfl, hq, hv⟩, rfl⟩ seqL_ok⟩
      | ref n =>
        simp only [srcOf] at hs
        split at hs
        · rename_i xs hn
          cases hs
          obtain ⟨vs, hq, hv⟩ := r1.lst hn
          obtain ⟨hlt, ex⟩ := rx
          subst ex
          exact .inl ⟨_, rfl, ⟨vs, SqL.of hq⟩, q _ [.ref (μ1 n)] ⟨_, _, rfl, ⟨hlt, rfl⟩, rfl⟩ seqM_ok⟩
        · cases hs
      | str y =>
        cases hs
        cases rx
        exact .inr (.inr ⟨y, rfl, q _ [] rfl str_ok⟩)
      | _ => cases hs
/-- numbers from lo on by st -/
def srcRg (lo st : Int) (n : Nat) : Src := ⟨[], fun _ i => some (if i < n then some (.int (lo + i * st)) else none), n⟩
theorem rg_ok {K : PySem.W.Frag} {mg : Str → Option Value} {lo st : Int} {n : Nat} : SrcOk K mg (Itc lo st n) (srcRg lo st n) [] := by
  intro i μ S H r rv
  show match some (if i < n then some (D.int (lo + i * st)) else none) with | some none => _ | some (some x) => _ | none => True
  by_cases hi : i < n
  · rw [if_pos hi]
    refine ⟨hi, fun v H' ⟨e, ev⟩ => ?_⟩
    subst e ev
    exact ⟨After.refl r, rfl⟩
  · rw [if_neg hi]
    exact Nat.le_of_not_lt hi
theorem rg1_ok {K : PySem.W.Frag} {mg : Str → Option Value} {lo : Int} {n : Nat} : SrcOk K mg (Itr lo n) (srcRg lo 1 n) [] := by
  intro i μ S H r rv
  show match some (if i < n then some (D.int (lo + i * 1)) else none) with | some none => _ | some (some x) => _ | none => True
  by_cases hi : i < n
  · rw [if_pos hi]
    refine ⟨hi, fun v H' ⟨e, ev⟩ => ?_⟩
    subst e ev
    refine ⟨After.refl r, ?_⟩
    show V.int _ = V.int _
    rw [Int.mul_one]
  · rw [if_neg hi]
    exact Nat.le_of_not_lt hi
def ok62 (i : Int) : Bool := Nat.blt i.natAbs 4611686018427387904
theorem ok62_iff {i : Int} (h : ok62 i = true) : -(2 ^ 62) ≤ i ∧ i < 2 ^ 62 := by
  unfold ok62 at h
  rw [Nat.blt_eq] at h
  omega
def fRange1 (a : FA) : FI := fun ρ S => (a ρ S).bind fun ds S1 => match ds with
  | [.int j] => if ok62 j then .ok (srcRg 0 1 j.toNat) S1 else .fail
  | _ => .fail
def fRange2 (a : FA) : FI := fun ρ S => (a ρ S).bind fun ds S1 => match ds with
  | [.int i, .int j] => if ok62 i && ok62 j then .ok (srcRg i 1 (j - i).toNat) S1 else .fail
  | _ => .fail
def fRange3 (a : FA) : FI := fun ρ S => (a ρ S).bind fun ds S1 => match ds with
  | [.int i, .int j, .int c] => if ok62 i && (ok62 j && decide (c = -1)) then .ok (srcRg i (-1) (i - j).toNat) S1 else .fail
  | _ => .fail
theorem si_range1 {g : FA} (hg : Gl X "range") (hm : X.mg "range" = none) (ha : SA X W [a] g) (hs : starEach [a] X.env = [(false, eval a X.env)]) : SI X W tg (.Call (.Name "range" p) [a] [] pos) (fRange1 g) :=
  PI.imp (pi_range1 hg hm ha hs) fun σ H Q h => by
    obtain ⟨μ, S, ρ, r, en, p⟩ := h
    refine (p.toA r en).mono fun x H1 h1 => ?_
    obtain ⟨d, μ1, S1, r1, e1, rx, _, q⟩ := h1
    split at q
    · rename_i j
      obtain ⟨_, _, ev, e2, e3⟩ := rx
      cases ev; cases e2; cases e3
      split at q
      · rename_i hj
        obtain ⟨h1, h2⟩ := ok62_iff hj
        exact ⟨j, rfl, h1, h2, q.end_ r1 _ [] rfl rg1_ok⟩
      · exact q.elim
    · exact q.elim
theorem si_range2 {g : FA} (hg : Gl X "range") (hm : X.mg "range" = none) (ha : SA X W [a, b] g) (hs : starEach [a, b] X.env = [(false, eval a X.env), (false, eval b X.env)]) (hs2 : starEach [b] X.env = [(false, eval b X.env)]) : SI X W tg (.Call (.Name "range" p) [a, b] [] pos) (fRange2 g) :=
  PI.imp (pi_range2 hg hm ha hs hs2) fun σ H Q h => by
    obtain ⟨μ, S, ρ, r, en, p⟩ := h
    refine (p.toA r en).mono fun x H1 h1 => ?_
    obtain ⟨d, μ1, S1, r1, e1, rx, _, q⟩ := h1
    split at q
    · rename_i i j
      obtain ⟨_, _, ev, e2, _, _, e3, e4, e5⟩ := rx
      cases ev; cases e2; cases e3; cases e4; cases e5
      split at q
      · rename_i hj
        rw [Bool.and_eq_true] at hj
        obtain ⟨h1, h2⟩ := ok62_iff hj.1
        obtain ⟨h3, h4⟩ := ok62_iff hj.2
        exact ⟨i, j, rfl, ⟨h1, h2, h3, h4⟩, q.end_ r1 _ [] rfl rg1_ok⟩
      · exact q.elim
    · exact q.elim
theorem si_range3 {g : FA} (hg : Gl X "range") (hm : X.mg "range" = none) (ha : SA X W [a, b, c] g) (hs : starEach [a, b, c] X.env = (false, eval a X.env) :: starEach [b, c] X.env) (hpl : (backTo pos (starEach [b, c] X.env)).any (·.1) = false) :
    SI X W tg (.Call (.Name "range" p) [a, b, c] [] pos) (fRange3 g) :=
  PI.imp (pi_range3 hg hm ha hs hpl) fun σ H Q h => by
    obtain ⟨μ, S, ρ, r, en, p⟩ := h
    refine (p.toA r en).mono fun x H1 h1 => ?_
    obtain ⟨d, μ1, S1, r1, e1, rx, _, q⟩ := h1
    split at q
    · rename_i i j k
      obtain ⟨_, _, ev, e2, _, _, e3, e4, _, _, e5, e6, e7⟩ := rx
      cases ev; cases e2; cases e3; cases e4; cases e5; cases e6; cases e7
      split at q
      · rename_i hj
        rw [Bool.and_eq_true, Bool.and_eq_true, decide_eq_true_eq] at hj
        obtain ⟨h1, h2⟩ := ok62_iff hj.1
        obtain ⟨h3, h4⟩ := ok62_iff hj.2.1
        have hk := hj.2.2
        subst hk
        exact ⟨i, j, -1, _, rfl, RgC.neg h1 h2 h3 h4, q.end_ r1 _ [] rfl rg_ok⟩
      · exact q.elim
    · exact q.elim
end

/-! ### list comprehensions -/
def wipeR (ρ : Rho) : List Nat → Rho
  | [] => ρ
  | v :: vs => (wipeR ρ vs).set v none
theorem wipe_set_out {σ : St} {i : Nat} {x : Option V} : ∀ {vs : List Nat}, i ∉ vs → wipe (σ.set i x) vs = (wipe σ vs).set i x
  | [], _ => rfl
  | v :: vs, h => by
    have h1 : i ≠ v := fun e => h (by simp [e])
    have h2 : i ∉ vs := fun e => h (by simp [e])
    unfold wipe
    rw [wipe_set_out h2, List.set_comm _ _ h1]
theorem wipe_set {σ : St} {i : Nat} {x : Option V} : ∀ {vs : List Nat}, i ∈ vs → wipe (σ.set i x) vs = wipe σ vs
  | v :: vs, h => by
    unfold wipe
    by_cases h2 : i ∈ vs
    · rw [wipe_set h2]
    · have e : i = v := by
        rcases List.mem_cons.mp h with e | e
        · exact e
        · exact absurd e h2
      subst e
      rw [wipe_set_out h2, List.set_set]
theorem wipe_wipe {σ : St} : ∀ (vs ws : List Nat), (∀ i ∈ vs, i ∈ ws) → wipe (wipe σ vs) ws = wipe σ ws
  | [], _, _ => rfl
  | v :: vs, ws, h => by
    have e : wipe σ (v :: vs) = (wipe σ vs).set v none := rfl
    rw [e, wipe_set (h v List.mem_cons_self)]
    exact wipe_wipe vs ws fun i hi => h i (List.mem_cons_of_mem _ hi)
theorem REnv.unset {K : PySem.W.Frag} {μ : Nat → Addr} {H : Hp} {N : Nat} {ρ : Rho} {σ : St} (e : REnv K μ H N ρ σ) (v : Nat) : REnv K μ H N (ρ.set v none) (σ.set v none) := by
  refine ⟨by simp [e.len], fun i d hd => ?_⟩
  by_cases c : v = i
  · subst c
    by_cases hl : v < ρ.length
    · rw [List.getElem?_set_self hl] at hd
      cases hd
    · rw [List.getElem?_eq_none (by simpa using hl)] at hd
      cases hd
  · rw [List.getElem?_set_ne c] at hd
    obtain ⟨w, a, b⟩ := e.at_ i d hd
    exact ⟨w, by rw [List.getElem?_set_ne c]; exact a, b⟩
theorem REnv.wipe {K : PySem.W.Frag} {μ : Nat → Addr} {H : Hp} {N : Nat} {ρ : Rho} {σ : St} (e : REnv K μ H N ρ σ) : ∀ vs, REnv K μ H N (wipeR ρ vs) (L2.wipe σ vs)
  | [] => e
  | v :: vs => (REnv.wipe e vs).unset v
/-- a comprehension's target: it sets slots of its own alone -/
abbrev FC := D → Rho → Option Rho
abbrev FCs := List D → Rho → Option Rho
def gC (K : PySem.W.Frag) (mg : Str → Option Value) (own : List Nat) (f : FC) : TG := fun v σ H Q => ∃ μ S ρ d ρ', Rep K mg μ S H ∧ REnv K μ H S.length ρ σ ∧ RepV K μ H S.length d v ∧ f d ρ = some ρ' ∧ ∀ σ', REnv K μ H S.length ρ' σ' → wipe σ' own = wipe σ own → Q σ' H
def gCs (K : PySem.W.Frag) (mg : Str → Option Value) (own : List Nat) (f : FCs) : TGs := fun v σ H Q => ∃ μ S ρ d ρ', Rep K mg μ S H ∧ REnv K μ H S.length ρ σ ∧ RepVs K μ H S.length d v ∧ f d ρ = some ρ' ∧ ∀ σ', REnv K μ H S.length ρ' σ' → wipe σ' own = wipe σ own → Q σ' H
def cNm (i : Nat) : FC := fun d ρ => some (ρ.set i (some d))
def cNil : FCs := fun ds ρ => match ds with
  | [] => some ρ
  | _ => none
def cCons (a : FC) (b : FCs) : FCs := fun ds ρ => match ds with
  | d :: r => (a d ρ).bind fun ρ1 => b r ρ1
  | [] => none
def cTp (n : Nat) (b : FCs) : FC := fun d ρ => match d with
  | .tup xs => if xs.length = n then b xs ρ else none
  | _ => none
section
variable {X : Cx} {own : List Nat} {pos : Pos} {t : Expr} {ts : List Expr} {g : FC} {gs : FCs}
theorem cg_name {i : Nat} {x : Str} (hN : X.N.Nodup) (hi : X.N[i]? = some x) (hx : Loc X.env.scope x) (hf : X.fn x = true ∨ X.env.scope.names.lookup x = some .local) (ho : i ∈ own) : PG X (.Name x pos) (gC X.K X.mg own (cNm i)) :=
  PG.imp (pg_name hN hi hx hf) fun v σ H Q ⟨μ, S, ρ, d, ρ', r, e, rv, hf, k⟩ => by
    cases hf
    exact k _ (e.set i rv) (wipe_set ho)
theorem cgs_nil : PGs X [] (gCs X.K X.mg own cNil) :=
  PGs.imp pgs_nil fun v σ H Q ⟨μ, S, ρ, d, ρ', r, e, rv, hf, k⟩ => by
    cases d with
    | nil => cases rv; cases hf; exact ⟨rfl, k σ e rfl⟩
    | cons _ _ => cases hf
theorem cgs_cons (h1 : PG X t (gC X.K X.mg own g)) (h2 : PGs X ts (gCs X.K X.mg own gs)) (hs : (assignEach (t :: ts) X.env).map (·.2) = assign t X.env :: (assignEach ts X.env).map (·.2)) : PGs X (t :: ts) (gCs X.K X.mg own (cCons g gs)) :=
  PGs.imp (pgs_cons h1 h2 hs) fun v σ H Q ⟨μ, S, ρ, d, ρ', r, e, rv, hf, k⟩ => by
    cases d with
    | nil => cases hf
    | cons x xs =>
      obtain ⟨y, ys, ev, ry, rys⟩ := rv
      have hf' : (g x ρ).bind (fun ρ1 => gs xs ρ1) = some ρ' := hf
      cases hg : g x ρ with
      | none => rw [hg] at hf'; cases hf'
      | some ρ1 =>
        rw [hg] at hf'
        refine ⟨y, ys, ev, μ, S, ρ, x, ρ1, r, e, ry, hg, fun σ1 e1 w1 => ⟨μ, S, ρ1, xs, ρ', r, e1, rys, hf', fun σ2 e2 w2 => k σ2 e2 (w2.trans w1)⟩⟩
theorem cg_tup {es : List Expr} {kk n : Nat} (hc : X.calm = true) (h : PGs X es (gCs X.K X.mg own gs)) (hn : (assignEach es X.env).length = n) (hst : (assignEach es X.env).findIdx? (·.1) = none) : PG X (.Tuple es kk pos) (gC X.K X.mg own (cTp n gs)) :=
  PG.imp (pg_tup hc h hn hst) fun v σ H Q ⟨μ, S, ρ, d, ρ', r, e, rv, hf, k⟩ => by
    cases d with
    | tup xs =>
      obtain ⟨a, vs, ev, hq, rvs⟩ := rv
      have hf' : (if xs.length = n then gs xs ρ else none) = some ρ' := hf
      by_cases hl : xs.length = n
      · rw [if_pos hl] at hf'
        exact ⟨a, vs, ev, hq, by rw [← rvs.length, hl], μ, S, ρ, xs, ρ', r, e, rvs, hf', k⟩
      · rw [if_neg hl] at hf'
        cases hf'
    | _ => cases hf
end
/-- the items made -/
def compV (item : Store → Nat → Option (Option D)) (tg : FC) (flt elt : FE) : Nat → Nat → Rho → Store → R (List D)
  | 0, _, _, _ => .fail
  | n + 1, i, ρ, S => match item S i with
    | none => .fail
    | some none => .ok [] S
    | some (some x) => match tg x ρ with
      | none => .fail
      | some ρ1 => noX (flt ρ1 S) fun b S1 => match b with
        | .bl k => (fun (k : Bool) S1 => if k = true then noX (elt ρ1 S1) fun y S2 => (compV item tg flt elt n (i + 1) ρ S2).bind fun ys S3 => .ok (y :: ys) S3 else compV item tg flt elt n (i + 1) ρ S1) k S1
        | _ => .fail
def fComp (fi : FI) (tg : FC) (flt elt : FE) (own : List Nat) : FE := fun ρ S => (fi ρ S).bind fun src S1 => if Nat.blt src.cnt 16777216 then noX (compV src.item tg flt elt (src.cnt + 1) 0 (wipeR ρ own) S1) fun ds S2 => .ok (.ref S2.length) (S2 ++ [.lst ds]) else .fail
abbrev W0 : WX := fun _ _ _ _ => False
section
variable {K : PySem.W.Frag} {mg : Str → Option Value} {μ μ1 : Nat → Addr} {S S1 : Store} {H H1 : Hp} {A : Addr}
/-- a list that the store doesn't hold yet is changed -/
theorem sqT_poke {xs ws : List V} (hA : H A = some (.lst xs)) {a : Addr} {vs : List V} (h : SqT K H a vs) : SqT K (upd H A (.lst ws)) a vs := by
  rcases h with (h | ⟨o, h⟩) | h
  · exact .inl (.inl (by rw [upd_ne (fun z => by rw [z, hA] at h; cases h)]; exact h))
  · exact .inl (.inr ⟨o, by rw [upd_ne (fun z => by rw [z, hA] at h; cases h)]; exact h⟩)
  · exact .inr h
theorem sqR_poke {xs ws : List V} (hA : H A = some (.lst xs)) {a : Addr} {vs : List V} (h : SqR K H a vs) : SqR K (upd H A (.lst ws)) a vs := by
  rcases h with ⟨o, h⟩ | h
  · exact .inl ⟨o, by rw [upd_ne (fun z => by rw [z, hA] at h; cases h)]; exact h⟩
  · exact .inr h
theorem Rep.poke {xs ws : List V} (r : Rep K mg μ S H) (hA : H A = some (.lst xs)) (hn : ∀ i, i < S.length → μ i ≠ A) : Rep K mg μ S (upd H A (.lst ws)) :=
  ⟨r.inj, fun i o e => (r.obj i o e).mono (fun v h => by rw [upd_ne (hn i (List.getElem?_eq_some_iff.mp e).1)]; exact h) (Nat.le_refl _) (fun _ _ => rfl) (fun _ _ => sqT_poke hA) (fun _ _ => sqR_poke hA)⟩
theorem After.poke {xs ws : List V} (f : After K mg μ1 S1 H1 μ S H) (h1 : H1 A = none) (hA : H A = some (.lst xs)) (hn : ∀ i, i < S.length → μ i ≠ A) : After K mg μ1 S1 H1 μ S (upd H A (.lst ws)) where
  rep := f.rep.poke hA hn
  agree := f.agree
  le := f.le
  frame := fun a o h k => ⟨by rw [upd_ne (ne_of_none h h1)]; exact (f.frame a o h k).1, (f.frame a o h k).2⟩
theorem RepVs.poke {N : Nat} {xs ws : List V} (hA : H A = some (.lst xs)) {ds : List D} {vs : List V} (h : RepVs K μ H N ds vs) : RepVs K μ (upd H A (.lst ws)) N ds vs :=
  h.mono (Nat.le_refl _) (fun _ _ => rfl) (fun _ _ => sqT_poke hA) (fun _ _ => sqR_poke hA)
theorem RepV.poke {N : Nat} {xs ws : List V} (hA : H A = some (.lst xs)) {d : D} {v : V} (h : RepV K μ H N d v) : RepV K μ (upd H A (.lst ws)) N d v :=
  h.mono (Nat.le_refl _) (fun _ _ => rfl) (fun _ _ => sqT_poke hA) (fun _ _ => sqR_poke hA)
/-- .. comes into the store -/
theorem After.adopt {ds : List D} {vs : List V} (f : After K mg μ1 S1 H1 μ S H) (h1 : H1 A = none) (hA : H A = some (.lst vs)) (hn : ∀ i, i < S.length → μ i ≠ A) (rv : RepVs K μ H S.length ds vs) : After K mg μ1 S1 H1 (ext μ S.length A) (S ++ [.lst ds]) H where
  rep := by
    have hl : (S ++ [MO.lst ds]).length = S.length + 1 := by simp
    refine ⟨fun i j hi hj e => ?_, fun i ob e => ?_⟩
    · rw [hl] at hi hj
      by_cases h1 : i = S.length <;> by_cases h2 : j = S.length
      · rw [h1, h2]
      · rw [h1, ext_same, ext_lt (by omega)] at e
        exact absurd e.symm (hn j (by omega))
      · rw [h2, ext_same, ext_lt (by omega)] at e
        exact absurd e (hn i (by omega))
      · rw [ext_lt (by omega), ext_lt (by omega)] at e
        exact f.rep.inj i j (by omega) (by omega) e
    · rw [hl]
      by_cases h1 : i < S.length
      · rw [List.getElem?_append_left h1] at e
        rw [ext_lt h1]
        exact (f.rep.obj i ob e).mono (fun v h => h) (Nat.le_succ _) (fun _ hj => ext_lt hj) (fun _ _ h => h) (fun _ _ h => h)
      · rw [List.getElem?_append_right (by omega)] at e
        have h2 : i = S.length := by
          have := (List.getElem?_eq_some_iff.mp e).1
          simp at this
          omega
        subst h2
        simp at e
        subst e
        rw [ext_same]
        exact ⟨vs, hA, rv.mono (Nat.le_succ _) (fun _ hj => ext_lt hj) (fun _ _ h => h) (fun _ _ h => h)⟩
  agree := fun i hi => by rw [ext_lt (Nat.lt_of_lt_of_le hi f.le)]; exact f.agree i hi
  le := by have := f.le; simp; omega
  frame := fun a ob h n => ⟨(f.frame a ob h n).1, fun i hi => by
    by_cases h1 : i < S.length
    · rw [ext_lt h1]; exact (f.frame a ob h n).2 i h1
    · have h2 : i = S.length := by simp at hi; omega
      subst h2
      rw [ext_same]
      exact fun z => ne_of_none h ‹H1 A = none› z.symm⟩
end
section
variable {X : Cx} {W : WX} {elt tg iter : Expr} {ifs : List Expr} {scope : Scope} {own : List (Str × Nat)} {pos : Pos} {fi : FI} {g : FC} {ff fe : FE}
theorem noX_ok {α β : Type} {r : R α} {k : α → Store → R β} {b : β} {S : Store} (h : noX r k = .ok b S) : ∃ a S1, r = .ok a S1 ∧ k a S1 = .ok b S := by
  cases r with
  | ok a S1 => exact ⟨a, S1, rfl, h⟩
  | exc _ _ _ => cases h
  | fail => cases h
theorem bind_ok {α β : Type} {r : R α} {k : α → Store → R β} {b : β} {S : Store} (h : r.bind k = .ok b S) : ∃ a S1, r = .ok a S1 ∧ k a S1 = .ok b S := by
  cases r with
  | ok a S1 => exact ⟨a, S1, rfl, h⟩
  | exc _ _ _ => cases h
  | fail => cases h
theorem comp_read {σ : St} {H : Hp} {Q : VK} {K : PySem.W.Frag} {mg : Str → Option Value} {vs : List Nat} (h : tE K mg W (fComp fi g ff fe vs) σ H Q) :
    tLc (tI K mg W fi) (gC K mg vs g) (tT K mg W0 ff) (tE K mg W0 fe) vs σ H Q := by
  obtain ⟨μ, S, ρ, r, e, p⟩ := h
  refine ⟨μ, S, ρ, r, e, (Pst.bind p).imp fun src μ1 S1 H1 f1 q J ws rws ok A hA => ?_⟩
  split at q
  · rename_i hcnt
    have hcnt : src.cnt < 16777216 := by simpa [Nat.blt_eq] using hcnt
    have r1 := f1.rep
    have e1 := (f1.env r e).wipe vs
    let Fn : List D → List D → Store → Prop := fun acc ys S' => ∀ μ' H' vv, After K mg μ1 S1 H1 μ' S' H' → H' A = some (.lst vv) → (∀ j, j < S'.length → μ' j ≠ A) → RepVs K μ' H' S'.length (acc ++ ys) vv → Q (.ref A) H'
    let Iv : Nat → Nat → Hp → Prop := fun i m H => ∃ μ S acc vv ys S', After K mg μ1 S1 H1 μ S H ∧ H A = some (.lst vv) ∧ (∀ j, j < S.length → μ j ≠ A) ∧ RepVs K μ H S.length acc vv ∧ acc.length ≤ i ∧ i + m ≤ src.cnt + 1 ∧
      compV src.item g ff fe m i (wipeR ρ vs) S = .ok ys S' ∧ Fn acc ys S'
    refine ⟨Iv, ?_, ?_⟩
    · cases hc : compV src.item g ff fe (src.cnt + 1) 0 (wipeR ρ vs) S1 with
      | ok ds S2 =>
        simp only [hc, noX] at q
        refine ⟨src.cnt + 1, μ1, S1, [], [], ds, S2, After.tmp r1 hA, upd_same, r1.ne_free hA, rfl, Nat.le_refl _, by omega, hc, fun μ2 H2 vv f2 hD2 hn2 rv2 => ?_⟩
        have a := After.adopt f2 hA hD2 hn2 rv2
        exact q _ _ a (.ref A) ⟨by simp, by rw [ext_same]⟩
      | exc c d S2 => simp only [hc, noX] at q; exact q.elim
      | fail => simp only [hc, noX] at q; exact q.elim
    · rintro i m H2 ⟨μ2, S2, acc, vv, ys, S', f2, hD2, hn2, rv2, hacc, him, hc, fin⟩
      cases m with
      | zero => cases hc
      | succ m =>
        have rs2 := f2.vals r1 rws
        have e2 := f2.env r1 e1
        have z := ok i μ2 S2 H2 f2.rep rs2
        unfold compV at hc
        cases hit : src.item S2 i with
        | none => simp only [hit] at hc; cases hc
        | some o =>
          cases o with
          | none =>
            simp only [hit] at z hc
            cases hc
            exact .inl ⟨z, fin μ2 H2 vv f2 hD2 hn2 (by rw [List.append_nil]; exact rv2)⟩
          | some x =>
            simp only [hit] at z hc
            obtain ⟨go, yl⟩ := z
            refine .inr ⟨go, fun H' => Iv (i + 1) m H', fun H' w => ⟨m, Nat.lt_succ_self m, w⟩, fun v H3 y => ?_⟩
            obtain ⟨g3, rv⟩ := yl v H3 y
            have f3 := f2.trans g3
            have hD3 := (g3.frame A _ hD2 hn2).1
            have hacc3 := g3.vals f2.rep rv2
            cases hg : g x (wipeR ρ vs) with
            | none => simp only [hg] at hc; cases hc
            | some ρ1 =>
              simp only [hg] at hc
              obtain ⟨b, S5, hff, hc⟩ := noX_ok hc
              refine ⟨μ2, S2, wipeR ρ vs, x, ρ1, f3.rep, g3.env f2.rep e2, rv, hg, fun σ4 e4 w4 => ⟨?_, ?_⟩⟩
              · rw [w4, wipe_wipe vs vs fun _ h => h]
              · refine ⟨μ2, S2, ρ1, f3.rep, e4, ?_⟩
                rw [hff]
                intro μ5 H5 g5
                have f5 := f3.trans g5
                obtain ⟨hD5, hn5⟩ := g5.frame A _ hD3 hn2
                have hacc5 := g5.vals f3.rep hacc3
                have e5 := g5.env f3.rep e4
                cases b with
                | bl k =>
                  refine ⟨k, rfl, ?_⟩
                  cases k with
                  | false =>
                    rw [if_neg Bool.false_ne_true]
                    exact ⟨μ5, S5, acc, vv, ys, S', f5, hD5, hn5, hacc5, by omega, by omega, hc, fin⟩
                  | true =>
                    rw [if_pos rfl]
                    have hc : (noX (fe ρ1 S5) fun y S2 => (compV src.item g ff fe m (i + 1) (wipeR ρ vs) S2).bind fun ys S3 => .ok (y :: ys) S3) = .ok ys S' := hc
                    obtain ⟨d, S6, hfe, hc⟩ := noX_ok hc
                    obtain ⟨zs, S7, hc2, hc⟩ := bind_ok hc
                    cases hc
                    refine ⟨μ5, S5, ρ1, f5.rep, e5, ?_⟩
                    rw [hfe]
                    intro μ6 H6 g6 w rw6
                    have f6 := f5.trans g6
                    obtain ⟨hD6, hn6⟩ := g6.frame A _ hD5 hn5
                    have hacc6 := g6.vals f5.rep hacc5
                    have hl := hacc6.length
                    exact ⟨vv, hD6, by rw [sizeLine_eq]; omega, μ6, S6, acc ++ [d], vv ++ [w], zs, S', f6.poke hA hD6 hn6, upd_same, hn6, ((hacc6.append (RepVs.one rw6)).poke hD6), by simp; omega, by omega, hc2,
                      fun μ8 H8 vv8 a1 a2 a3 a4 => fin μ8 H8 vv8 a1 a2 a3 (by rw [List.append_assoc] at a4; exact a4)⟩
                | _ => cases hc
  · exact q.elim
theorem se_comp (hc : X.calm = true) (hN : X.N.Nodup) (hi : SI X W tg iter fi) (ok : BlkOk X.N X.env.scope scope own)
    (hg : ∀ (s : Shared) (H : Hp) (C : Addr) (cl : List (Str × Addr)) (fp : List Addr), PG (X.blk s H scope (compEnvC scope cl C X.env) fp) tg (gC X.K X.mg (own.map (·.2)) g))
    (ht : ∀ (s : Shared) (H : Hp) (C : Addr) (cl : List (Str × Addr)) (fp : List Addr), PTs (X.blk s H scope (compEnvC scope cl C X.env) fp) ifs (tT X.K X.mg W0 ff))
    (he : ∀ (s : Shared) (H : Hp) (C : Addr) (cl : List (Str × Addr)) (fp : List Addr), SE (X.blk s H scope (compEnvC scope cl C X.env) fp) W0 elt fe) (hs : ∀ x, foldedSetIterable iter X.env x = pure x) :
    SE X W (.ListComp elt [⟨tg, iter, ifs, 0⟩] scope pos) (fComp fi g ff fe (own.map (·.2))) :=
  PE.imp (pe_lc hc hN hi ok hg ht he hs) fun σ H Q h => comp_read h
theorem pts_nil' {Y : Cx} {K : PySem.W.Frag} {mg : Str → Option Value} : PTs Y [] (tT K mg W0 (fC (.bl true))) :=
  ⟨fun pins s σ H Q I ⟨μ, S, ρ, r, e, p⟩ => (pts_nil (X := Y)).run pins s σ H Q I (by
    obtain ⟨b, eb, q⟩ := p.end_ r
    cases eb
    exact q)⟩
/-- name = [..] on its line -/
theorem ss_setLc {i : Nat} {y : Str} {py spos : Pos} (hc : X.calm = true) (hN : X.N.Nodup) (hy : X.N[i]? = some y) (hyl : X.env.scope.names.lookup y = some .local)
    (hsw : swapsWith (.ListComp elt [⟨tg, iter, ifs, 0⟩] scope pos) (some (.Name y py)) spos.line X.env = pure true) (hi : SI X W tg iter fi) (ok : BlkOk X.N X.env.scope scope own)
    (hg : ∀ (s : Shared) (H : Hp) (C : Addr) (cl : List (Str × Addr)) (fp : List Addr), PG (X.blk s H scope (compEnvC scope cl C X.env) fp) tg (gC X.K X.mg (own.map (·.2)) g))
    (ht : ∀ (s : Shared) (H : Hp) (C : Addr) (cl : List (Str × Addr)) (fp : List Addr), PTs (X.blk s H scope (compEnvC scope cl C X.env) fp) ifs (tT X.K X.mg W0 ff))
    (he : ∀ (s : Shared) (H : Hp) (C : Addr) (cl : List (Str × Addr)) (fp : List Addr), SE (X.blk s H scope (compEnvC scope cl C X.env) fp) W0 elt fe) (hs : ∀ x, foldedSetIterable iter X.env x = pure x) :
    SS X W (.Assign [.Name y py] (.ListComp elt [⟨tg, iter, ifs, 0⟩] scope pos) spos) (sAsg (fComp fi g ff fe (own.map (·.2))) (gNm i)) :=
  PS.imp (ps_setLc (te := tE X.K X.mg W0 fe) hc hN hy hyl hsw hi ok hg ht he hs) fun D0 σ H h => by
    have h2 := asg_read h
    refine comp_read (W := W) (fe := fe) ?_
    obtain ⟨μ, S, ρ, r, e, p⟩ := h2
    exact ⟨μ, S, ρ, r, e, p.imp fun d μ' S' H' _ q v rv => by
      obtain ⟨μ1, S1, ρ1, d1, r1, e1, rv1, q1⟩ := q v rv
      exact q1.end_ r1 _ (e1.set i rv1)⟩
end
end MP

namespace MP
open PySem L2 PySem.Spec PyProof.Rows

/-! ### operators -/
section
variable {K : PySem.W.Frag} {mg : Str → Option Value} {μ : Nat → Addr} {H : Hp} {S S' : Store} {Q : VK} {d : D}
theorem Res.get (h : Res K mg (some (d, S')) μ S H Q) : ∀ μ' H' v, After K mg μ S H μ' S' H' → RepV K μ' H' S'.length d v → Q v H' := by
  obtain ⟨d', S1, e, k⟩ := h
  cases e
  exact k
theorem Res.here (h : Res K mg (some (d, S)) μ S H Q) (r : Rep K mg μ S H) {v : V} (rv : RepV K μ H S.length d v) : Q v H := h.get μ H v (After.refl r) rv
theorem Res.no (h : Res K mg none μ S H Q) : False := by
  obtain ⟨d', S1, e, k⟩ := h
  cases e
/-- a new tuple -/
theorem Res.tup {xs : List D} {vs : List V} (h : Res K mg (some (.tup xs, S)) μ S H Q) (r : Rep K mg μ S H) (rv : RepVs K μ H S.length xs vs) : ∀ p, H p = none → Q (.ref p) (upd H p (.tup vs)) :=
  fun p hp => h.get _ _ _ (After.tmp r hp) (RepV.newTup r hp rv)
/-- a new list -/
theorem Res.lst {xs : List D} {vs : List V} (h : Res K mg (some (.ref S.length, S ++ [.lst xs])) μ S H Q) (r : Rep K mg μ S H) (rv : RepVs K μ H S.length xs vs) : ∀ p, H p = none → Q (.ref p) (upd H p (.lst vs)) :=
  fun p hp => h.get _ _ _ (After.newLst r hp rv) RepV.newRef
theorem RepV.lstAt (r : Rep K mg μ S H) {n : Nat} {x : V} {xs : List D} (rv : RepV K μ H S.length (.ref n) x) (e : S[n]? = some (.lst xs)) : ∃ vs, x = .ref (μ n) ∧ H (μ n) = some (.lst vs) ∧ RepVs K μ H S.length xs vs := by
  obtain ⟨vs, h1, h2⟩ := r.lst e
  exact ⟨vs, rv.2, h1, h2⟩
/-- a readable list -/
def lstOf (S : Store) : D → Option (List D)
  | .rl xs => some xs
  | .ref n => match S[n]? with
    | some (.lst xs) => some xs
    | _ => none
  | _ => none
theorem RepV.sqL (r : Rep K mg μ S H) {x : V} {xs : List D} (rv : RepV K μ H S.length d x) (e : lstOf S d = some xs) : ∃ a vs, x = .ref a ∧ SqL K H a vs ∧ RepVs K μ H S.length xs vs := by
  cases d with
  | rl ys =>
    cases e
    obtain ⟨a, vs, h1, h2, h3⟩ := rv
    exact ⟨a, vs, h1, h2.sqL, h3⟩
  | ref n =>
    simp only [lstOf] at e
    split at e
    · rename_i ys hn
      cases e
      obtain ⟨vs, h1, h2, h3⟩ := RepV.lstAt r rv hn
      exact ⟨_, vs, h1, .inl (.inl h2), h3⟩
    · cases e
  | _ => cases e
end

abbrev lim : Nat := 1000000
theorem lim_le : lim ≤ sizeLine := by rw [sizeLine_eq]; decide
section
variable {X : Cx}
/-- two ints -/
def oI (C : Int → Int → Bool) (g : Int → Int → Int) : Op2 := fun a b S => match a, b with
  | .int i, .int j => if C i j then some (.int (g i j), S) else none
  | _, _ => none
theorem op_oI {f : Value → Value → Sem Value} {C : Int → Int → Prop} {Cb : Int → Int → Bool} {g : Int → Int → Int} (h : OpR X f (rI C fun i j => .int (g i j))) (hC : ∀ i j, Cb i j = true → C i j) : OpR X f (r2 X.K X.mg (oI Cb g)) := by
  rintro pins s σ H x y v u Q I rx ry ⟨μ, S, d1, d2, r, r1, r2, q⟩
  unfold oI at q
  split at q
  · rename_i i j
    split at q
    · rename_i hc
      exact h pins s σ H x y v u Q I rx ry ⟨i, j, r1, r2, hC i j hc, q.here r rfl⟩
    · exact q.no.elim
  · exact q.no.elim
theorem op_oI0 {f : Value → Value → Sem Value} {g : Int → Int → Int} (h : OpR X f (rI0 fun i j => .int (g i j))) : OpR X f (r2 X.K X.mg (oI (fun _ _ => true) g)) :=
  op_oI (C := fun _ _ => True) (fun pins s σ H x y v u Q I rx ry ⟨i, j, h1, h2, _, q⟩ => h pins s σ H x y v u Q I rx ry ⟨i, j, h1, h2, q⟩) (fun _ _ _ => True.intro)
abbrev bits (i : Int) : Nat := i.natAbs.log2 + 1
theorem intBits_le (x : Int) : Builtin.Int.intBits x ≤ bits x := by
  unfold Builtin.Int.intBits bits
  split <;> omega
def cMul (i j : Int) : Bool := Nat.ble (bits i + bits j) 134217728
def cDiv (i j : Int) : Bool := decide (0 < j) && Nat.blt j.natAbs.log2 9000
def cMod (_ j : Int) : Bool := decide (0 < j)
theorem cMul_ok {i j : Int} (h : cMul i j = true) : CMulX i j := by
  have h' : bits i + bits j ≤ 134217728 := Nat.le_of_ble_eq_true h
  have h1 := intBits_le i
  have h2 := intBits_le j
  unfold CMulX
  omega
theorem cDiv_ok {i j : Int} (h : cDiv i j = true) : CDivW i j := by
  have h' : 0 < j ∧ Nat.blt j.natAbs.log2 9000 = true := by simpa only [cDiv, Bool.and_eq_true, decide_eq_true_eq] using h
  exact ⟨h'.1, by simpa [Nat.blt_eq] using h'.2⟩
def oAdd : Op2 := fun a b S => match a, b with
  | .int i, .int j => some (.int (i + j), S)
  | .str x, .str y => if Nat.ble (x.length + y.length) lim then some (.str (x ++ y), S) else none
  | .tup xs, .tup ys => if Nat.ble (xs.length + ys.length) lim then some (.tup (xs ++ ys), S) else none
  | .ref n, .ref m => match S[n]?, S[m]? with
    | some (.lst xs), some (.lst ys) => if Nat.ble (xs.length + ys.length) lim then some (.ref S.length, S ++ [.lst (xs ++ ys)]) else none
    | _, _ => none
  | _, _ => none
theorem op_oAdd : OpR X (binaryOp .Add) (r2 X.K X.mg oAdd) := by
  rintro pins s σ H x y v u Q I rx ry ⟨μ, S, d1, d2, r, r1, r2, q⟩
  unfold oAdd at q
  split at q
  · rename_i i j
    exact op_add pins s σ H x y v u Q I rx ry ⟨i, j, r1, r2, q.here r rfl⟩
  · rename_i i j
    split at q
    · rename_i hc
      exact op_add_str pins s σ H x y v u Q I rx ry ⟨i, j, r1, r2, Nat.le_trans (Nat.le_of_ble_eq_true hc) lim_le, q.here r rfl⟩
    · exact q.no.elim
  · rename_i xs ys
    split at q
    · rename_i hc
      obtain ⟨a, vs, rfl, h1, h2⟩ := r1
      obtain ⟨b, ws, rfl, g1, g2⟩ := r2
      refine op_catA pins s σ H _ _ v u Q I rx ry ⟨a, b, vs, ws, rfl, rfl, h1, g1, ?_, fun e => ?_, fun e1 e2 => ?_, fun _ _ => q.tup r (h2.append g2)⟩
      · rw [← h2.length, ← g2.length]; exact Nat.le_trans (Nat.le_of_ble_eq_true hc) lim_le
      · subst e
        have : xs = [] := List.eq_nil_of_length_eq_zero (by rw [h2.length]; rfl)
        subst this
        exact q.here r ⟨b, ws, rfl, g1, g2⟩
      · subst e2
        have : ys = [] := List.eq_nil_of_length_eq_zero (by rw [g2.length]; rfl)
        subst this
        exact q.here r ⟨a, vs, rfl, h1, by rw [List.append_nil]; exact h2⟩
    · exact q.no.elim
  · rename_i n m
    split at q
    · rename_i xs ys hn hm
      split at q
      · rename_i hc
        obtain ⟨vs, rfl, h1, h2⟩ := RepV.lstAt r r1 hn
        obtain ⟨ws, rfl, g1, g2⟩ := RepV.lstAt r r2 hm
        exact op_cat pins s σ H _ _ v u Q I rx ry ⟨_, _, vs, ws, rfl, rfl, h1, g1, by rw [← h2.length, ← g2.length]; exact Nat.le_trans (Nat.le_of_ble_eq_true hc) lim_le, q.lst r (h2.append g2)⟩
      · exact q.no.elim
    · exact q.no.elim
  · exact q.no.elim
abbrev oTrue : Int → Int → Bool := fun _ _ => true
theorem op_oSub : OpR X (binaryOp .Sub) (r2 X.K X.mg (oI oTrue fun i j => i - j)) := op_oI0 op_sub
theorem op_oMul : OpR X (binaryOp .Mult) (r2 X.K X.mg (oI cMul fun i j => i * j)) := op_oI op_mulX fun _ _ h => cMul_ok h
theorem op_oDiv : OpR X (binaryOp .FloorDiv) (r2 X.K X.mg (oI cDiv fun i j => i / j)) := op_oI op_fdivW fun _ _ h => cDiv_ok h
theorem op_oMod : OpR X (binaryOp .Mod) (r2 X.K X.mg (oI cMod fun i j => i % j)) := op_oI op_mod fun _ _ h => by simpa [cMod] using h
theorem op_oAnd : OpR X (binaryOp .BitAnd) (r2 X.K X.mg (oI oTrue fun i j => Builtin.bitAnd i j)) := op_oI0 op_and
theorem op_oOr : OpR X (binaryOp .BitOr) (r2 X.K X.mg (oI oTrue fun i j => Builtin.bitOr i j)) := op_oI0 op_or
theorem op_oXor : OpR X (binaryOp .BitXor) (r2 X.K X.mg (oI oTrue fun i j => Builtin.bitXor i j)) := op_oI0 op_xor
def cShr (_ j : Int) : Bool := decide (0 ≤ j)
theorem op_oShr : OpR X (binaryOp .RShift) (r2 X.K X.mg (oI cShr fun i j => i / 2 ^ j.toNat)) := op_oI op_shr fun _ _ h => by simpa [cShr] using h
def cShl (i j : Int) : Bool := decide (0 ≤ j) && Nat.ble (bits i + j.toNat) 134217728
theorem cShl_ok {i j : Int} (h : cShl i j = true) : CShl i j := by
  have h' : 0 ≤ j ∧ Nat.ble (bits i + j.toNat) 134217728 = true := by simpa only [cShl, Bool.and_eq_true, decide_eq_true_eq] using h
  have h1 := intBits_le i
  have h2 : bits i + j.toNat ≤ 134217728 := Nat.le_of_ble_eq_true h'.2
  exact ⟨h'.1, by omega⟩
theorem op_oShl : OpR X (binaryOp .LShift) (r2 X.K X.mg (oI cShl fun i j => i * 2 ^ j.toNat)) := op_oI op_shlW fun _ _ h => cShl_ok h
theorem op_pow' : OpR X (binaryOp .Pow) (rI (fun i j => 0 ≤ j ∧ (Builtin.Int.intBits i : Int) * j ≤ 2 ^ 27) fun i j => .int (i ^ j.toNat)) := opI fun _ _ _ _ _ _ _ hc q => PyProof.Rows.pow_int hc.1 hc.2 q
def cPow (i j : Int) : Bool := decide (0 ≤ j) && Nat.ble (bits i * j.toNat) 134217728
theorem cPow_ok {i j : Int} (h : cPow i j = true) : 0 ≤ j ∧ (Builtin.Int.intBits i : Int) * j ≤ 2 ^ 27 := by
  have h' : 0 ≤ j ∧ Nat.ble (bits i * j.toNat) 134217728 = true := by simpa only [cPow, Bool.and_eq_true, decide_eq_true_eq] using h
  have h1 := intBits_le i
  have h2 : bits i * j.toNat ≤ 134217728 := Nat.le_of_ble_eq_true h'.2
  refine ⟨h'.1, ?_⟩
  have h3 : Builtin.Int.intBits i * j.toNat ≤ 134217728 := Nat.le_trans (Nat.mul_le_mul_right _ h1) h2
  have h4 : (j.toNat : Int) = j := Int.toNat_of_nonneg h'.1
  calc (Builtin.Int.intBits i : Int) * j = (Builtin.Int.intBits i : Int) * (j.toNat : Int) := by rw [h4]
    _ = ((Builtin.Int.intBits i * j.toNat : Nat) : Int) := by rw [Int.natCast_mul]
    _ ≤ 2 ^ 27 := by have : (134217728 : Int) = 2 ^ 27 := by decide
                     omega
theorem op_oPow : OpR X (binaryOp .Pow) (r2 X.K X.mg (oI cPow fun i j => i ^ j.toNat)) := op_oI op_pow' fun _ _ h => cPow_ok h
/-- a value of a test on two ints -/
def oB (g : Int → Int → Bool) : Op2 := fun a b S => match a, b with
  | .int i, .int j => some (.bl (g i j), S)
  | _, _ => none
theorem op_oB {f : Value → Value → Sem Value} {g : Int → Int → Bool} (h : OpR X f (rI0 fun i j => .bl (g i j))) : OpR X f (r2 X.K X.mg (oB g)) := by
  rintro pins s σ H x y v u Q I rx ry ⟨μ, S, d1, d2, r, r1, r2, q⟩
  unfold oB at q
  split at q
  · rename_i i j
    exact h pins s σ H x y v u Q I rx ry ⟨i, j, r1, r2, q.here r rfl⟩
  · exact q.no.elim
abbrev oLt := oB fun i j => decide (i < j)
abbrev oLe := oB fun i j => decide (i ≤ j)
abbrev oGt := oB fun i j => decide (j < i)
abbrev oGe := oB fun i j => decide (j ≤ i)
theorem op_oLt : OpR X (compareOp .Lt) (r2 X.K X.mg oLt) := op_oB op_lt
theorem op_oLe : OpR X (compareOp .LtE) (r2 X.K X.mg oLe) := op_oB op_le
theorem op_oGt : OpR X (compareOp .Gt) (r2 X.K X.mg oGt) := op_oB op_gt
theorem op_oGe : OpR X (compareOp .GtE) (r2 X.K X.mg oGe) := op_oB op_ge
/-- one int -/
def oU (g : Int → Int) : Op1 := fun a S => match a with
  | .int i => some (.int (g i), S)
  | _ => none
theorem op_oU {f : Value → Sem Value} {g : Int → Int} (h : UnR X f (rU fun i => .int (g i))) : UnR X f (r1 X.K X.mg (oU g)) := by
  rintro pins s σ H x v Q I rx ⟨μ, S, d1, r, r1, q⟩
  unfold oU at q
  split at q
  · rename_i i
    exact h pins s σ H x v Q I rx ⟨i, r1, q.here r rfl⟩
  · exact q.no.elim
theorem op_oNeg : UnR X (unaryOp .USub) (r1 X.K X.mg (oU fun i => -i)) := op_oU un_neg
theorem op_oInv : UnR X (unaryOp .Invert) (r1 X.K X.mg (oU fun i => Builtin.bitNot i)) := op_oU un_inv
theorem iop_oI0 {f : Value → Value → Sem Value} {g : Int → Int → Int} (h : OpR X f (rI0 fun i j => .int (g i j))) : OpR X f (r2 X.K X.mg (oI oTrue g)) := op_oI0 h
/-- is None, is not None; is True, is False -/
def isNonD : D → Bool
  | .non => true
  | _ => false
theorem isNonD_rep {K : PySem.W.Frag} {μ : Nat → Addr} {H : Hp} {N : Nat} {d : D} {v : V} (h : RepV K μ H N d v) : decide (v = .non) = isNonD d := by
  cases d with
  | non => cases h; rfl
  | bl b => cases h; rfl
  | int i => cases h; rfl
  | str x => cases h; rfl
  | tup xs => obtain ⟨a, vs, rfl, _⟩ := h; rfl
  | rl xs => obtain ⟨a, vs, rfl, _⟩ := h; rfl
  | ref n => obtain ⟨_, rfl⟩ := h; rfl
def isBlD (k : Bool) : D → Bool
  | .bl b => b == k
  | _ => false
theorem isBlD_rep {K : PySem.W.Frag} {μ : Nat → Addr} {H : Hp} {N : Nat} {d : D} {v : V} {k : Bool} (h : RepV K μ H N d v) : decide (v = .bl k) = isBlD k d := by
  cases d with
  | non => cases h; rfl
  | bl b => cases h; cases b <;> cases k <;> rfl
  | int i => cases h; rfl
  | str x => cases h; rfl
  | tup xs => obtain ⟨a, vs, rfl, _⟩ := h; rfl
  | rl xs => obtain ⟨a, vs, rfl, _⟩ := h; rfl
  | ref n => obtain ⟨_, rfl⟩ := h; rfl
theorem blE {K : PySem.W.Frag} {μ : Nat → Addr} {H : Hp} {N : Nat} (j k : Bool) : RepV K μ H N (.bl (xor false (j == k))) (.bl (decide (j = k))) := by cases j <;> cases k <;> rfl
theorem blN {K : PySem.W.Frag} {μ : Nat → Addr} {H : Hp} {N : Nat} (j k : Bool) : RepV K μ H N (.bl (xor true (j == k))) (.bl (!decide (j = k))) := by cases j <;> cases k <;> rfl
def oIs (neg : Bool) : Op2 := fun a b S => match b with
  | .non => some (.bl (xor neg (isNonD a)), S)
  | .bl k => match a with
    | .bl j => some (.bl (xor neg (j == k)), S)
    | _ => none
  | _ => none
theorem op_oIs : OpR X (compareOp .Is) (r2 X.K X.mg (oIs false)) := by
  rintro pins s σ H x y v u Q I rx ry ⟨μ, S, d1, d2, r, r1, r2, q⟩
  unfold oIs at q
  split at q
  · cases r2
    exact op_isN pins s σ H x _ v u Q I rx ry ⟨rfl, q.here r (by rw [isNonD_rep r1]; simp [RepV])⟩
  · cases r2
    split at q
    · rename_i j
      cases r1
      exact op_isBl pins s σ H _ _ v u Q I rx ry ⟨j, _, rfl, rfl, q.here r (blE j _)⟩
    · exact q.no.elim
  · exact q.no.elim
theorem op_oIsNot : OpR X (compareOp .IsNot) (r2 X.K X.mg (oIs true)) := by
  rintro pins s σ H x y v u Q I rx ry ⟨μ, S, d1, d2, r, r1, r2, q⟩
  unfold oIs at q
  split at q
  · cases r2
    exact op_notN pins s σ H x _ v u Q I rx ry ⟨rfl, q.here r (by rw [isNonD_rep r1]; simp [RepV])⟩
  · cases r2
    split at q
    · rename_i j
      cases r1
      exact op_notBl pins s σ H _ _ v u Q I rx ry ⟨j, _, rfl, rfl, q.here r (blN j _)⟩
    · exact q.no.elim
  · exact q.no.elim

/-! ### == by data -/
mutual
def convD (lk : Nat → Option PyData) : D → Option PyData
  | .non => some .none
  | .bl b => some (.bool b)
  | .int i => some (.int i)
  | .str x => some (.str x)
  | .tup xs => (convDs lk xs).map .tuple
  | .rl xs => (convDs lk xs).map .list
  | .ref i => lk i
def convDs (lk : Nat → Option PyData) : List D → Option (List PyData)
  | [] => some []
  | x :: xs => match convD lk x, convDs lk xs with
    | some d, some ds => some (d :: ds)
    | _, _ => none
end
/-- the list at a place -/
def lkPy (S : Store) : Nat → Nat → Option PyData
  | 0, _ => none
  | n + 1, i => match S[i]? with
    | some (.lst xs) => (convDs (lkPy S n) xs).map .list
    | _ => none
def toPy (S : Store) (d : D) : Option PyData := convD (lkPy S 6) d
end
section
variable {K : PySem.W.Frag} {mg : Str → Option Value} {μ : Nat → Addr} {H : Hp} {S : Store} {N : Nat}
theorem map_some {α β : Type} {f : α → β} {o : Option α} {b : β} (h : o.map f = some b) : ∃ a, o = some a ∧ f a = b := by
  cases o with
  | none => cases h
  | some a => exact ⟨a, rfl, by simpa using h⟩
mutual
theorem convD_ok {lk : Nat → Option PyData} (hl : ∀ i p, i < N → lk i = some p → Dp K H (.ref (μ i)) p) : ∀ {d : D} {v : V} {p : PyData}, RepV K μ H N d v → convD lk d = some p → Dp K H v p
  | .non, _, _, h, e => by cases h; cases e; exact .non
  | .bl b, _, _, h, e => by cases h; cases e; exact .bl b
  | .int b, _, _, h, e => by cases h; cases e; exact .int b
  | .str b, _, _, h, e => by cases h; cases e; exact .str b
  | .tup xs, _, _, ⟨a, vs, e1, h1, h2⟩, e => by
    subst e1
    obtain ⟨ps, e2, e3⟩ := map_some e
    subst e3
    exact .tup h1 (convDs_ok hl h2 e2)
  | .rl xs, _, _, ⟨a, vs, e1, h1, h2⟩, e => by
    subst e1
    obtain ⟨ps, e2, e3⟩ := map_some e
    subst e3
    exact .lst h1.sqL (convDs_ok hl h2 e2)
  | .ref i, _, _, ⟨h1, h2⟩, e => by
    subst h2
    exact hl i _ h1 e
theorem convDs_ok {lk : Nat → Option PyData} (hl : ∀ i p, i < N → lk i = some p → Dp K H (.ref (μ i)) p) : ∀ {d : List D} {v : List V} {p : List PyData}, RepVs K μ H N d v → convDs lk d = some p → DpAll K H v p
  | [], _, _, h, e => by cases h; cases e; exact .nil
  | x :: xs, _, _, ⟨v, r, e1, h1, h2⟩, e => by
    subst e1
    unfold convDs at e
    split at e
    · rename_i d ds e2 e3
      cases e
      exact .cons (convD_ok hl h1 e2) (convDs_ok hl h2 e3)
    · cases e
end
theorem lkPy_ok (r : Rep K mg μ S H) : ∀ (n i : Nat) (p : PyData), i < S.length → lkPy S n i = some p → Dp K H (.ref (μ i)) p
  | 0, i, p, _, e => by cases e
  | n + 1, i, p, hi, e => by
    unfold lkPy at e
    split at e
    · rename_i xs hx
      obtain ⟨vs, h1, h2⟩ := r.lst hx
      obtain ⟨ps, e2, e3⟩ := map_some e
      subst e3
      exact .lst (.inl (.inl h1)) (convDs_ok (lkPy_ok r n) h2 e2)
    · cases e
theorem toPy_ok (r : Rep K mg μ S H) {d : D} {v : V} {p : PyData} (h : RepV K μ H S.length d v) (e : toPy S d = some p) : Dp K H v p := convD_ok (lkPy_ok r 6) h e
theorem toPys_ok (r : Rep K mg μ S H) {d : List D} {v : List V} {p : List PyData} (h : RepVs K μ H S.length d v) (e : convDs (lkPy S 6) d = some p) : DpAll K H v p := convDs_ok (lkPy_ok r 6) h e
end
/-- == of strings, the kernel's way -/
def sEq (x y : Str) : Bool := x.cps.toList == y.cps.toList
theorem sEq_eq (x y : Str) : sEq x y = decide (x = y) := by
  unfold sEq
  by_cases h : x = y
  · subst h; simp
  · rw [decide_eq_false h]
    refine beq_eq_false_iff_ne.mpr fun e => h ?_
    obtain ⟨a⟩ := x
    obtain ⟨b⟩ := y
    exact congrArg Str.mk (Array.toList_inj.mp e)
/-- == of scalars, quick -/
def eqS : D → D → Option Bool
  | .int i, .int j => some (i == j)
  | .str x, .str y => some (sEq x y)
  | .bl i, .bl j => some (i == j)
  | .non, .non => some true
  | .non, .int _ => some false
  | .non, .str _ => some false
  | .non, .bl _ => some false
  | .int _, .non => some false
  | .str _, .non => some false
  | .bl _, .non => some false
  | .str _, .int _ => some false
  | .int _, .str _ => some false
  | _, _ => none
def oEq (neg : Bool) : Op2 := fun a b S => match eqS a b with
  | some k => some (.bl (xor neg k), S)
  | none => match toPy S a, toPy S b with
    | some p, some q => if SeqAt.shaped p && SeqAt.shaped q then some (.bl (xor neg (PyData.eqv p q)), S) else none
    | _, _ => none
section
variable {K : PySem.W.Frag} {μ : Nat → Addr} {H : Hp} {N : Nat}
theorem eqS_ok {a b : D} {x y : V} {k : Bool} (h : eqS a b = some k) (ha : RepV K μ H N a x) (hb : RepV K μ H N b y) : scal x y = true ∧ decide (x = y) = k := by
  unfold eqS at h
  split at h
  · cases ha; cases hb; cases h; exact ⟨rfl, by rw [dec_int]⟩
  · cases ha; cases hb; cases h; exact ⟨rfl, by rw [sEq_eq]; by_cases e : ‹Str› = ‹Str› <;> simp⟩
  · cases ha; cases hb; cases h; exact ⟨rfl, by rw [dec_bl]⟩
  all_goals first
    | cases h; done
    | (cases ha; cases hb; cases h; exact ⟨rfl, rfl⟩)
end
section
variable {X : Cx} {k : Nat}
theorem op_oEq (hr : Room k X.A) : OpR X (compareOp .Eq) (r2 X.K X.mg (oEq false)) := by
  rintro pins s σ H x y v u Q I rx ry ⟨μ, S, d1, d2, r, r1, r2, q⟩
  unfold oEq at q
  split at q
  · rename_i kk e
    obtain ⟨h1, h2⟩ := eqS_ok e r1 r2
    exact op_eq pins s σ H x y v u Q I rx ry ⟨h1, q.here r (by rw [h2]; cases kk <;> rfl)⟩
  · split at q
    · rename_i p p' e1 e2
      split at q
      · rename_i hc
        have hc' : SeqAt.shaped p = true ∧ SeqAt.shaped p' = true := by simpa using hc
        exact op_eqD hr.units pins s σ H x y v u Q I rx ry ⟨p, p', toPy_ok r r1 e1, toPy_ok r r2 e2, hc'.1, hc'.2, q.here r (by simp [RepV])⟩
      · exact q.no.elim
    · exact q.no.elim
theorem op_oNe (hr : Room k X.A) : OpR X (compareOp .NotEq) (r2 X.K X.mg (oEq true)) := by
  rintro pins s σ H x y v u Q I rx ry ⟨μ, S, d1, d2, r, r1, r2, q⟩
  unfold oEq at q
  split at q
  · rename_i kk e
    obtain ⟨h1, h2⟩ := eqS_ok e r1 r2
    exact op_ne pins s σ H x y v u Q I rx ry ⟨h1, q.here r (by rw [h2]; cases kk <;> rfl)⟩
  · split at q
    · rename_i p p' e1 e2
      split at q
      · rename_i hc
        have hc' : SeqAt.shaped p = true ∧ SeqAt.shaped p' = true := by simpa using hc
        exact op_neD hr.units pins s σ H x y v u Q I rx ry ⟨p, p', toPy_ok r r1 e1, toPy_ok r r2 e2, hc'.1, hc'.2, q.here r (by simp [RepV])⟩
      · exact q.no.elim
    · exact q.no.elim
end
end MP

namespace MP
open PySem L2 PySem.Spec PyProof.Rows

/-! ### in -/
def flatD : D → Bool
  | .non => true
  | .bl _ => true
  | .int _ => true
  | .str _ => true
  | _ => false
/-- == of flat values -/
def eqFl : D → D → Bool
  | .non, .non => true
  | .bl a, .bl b => a == b
  | .bl a, .int b => (if a then 1 else 0) == b
  | .int a, .bl b => a == (if b then 1 else 0)
  | .int a, .int b => a == b
  | .str a, .str b => sEq a b
  | _, _ => false
section
variable {K : PySem.W.Frag} {mg : Str → Option Value} {μ : Nat → Addr} {H : Hp} {S : Store} {N : Nat}
theorem flatD_ok {d : D} {v : V} (h : RepV K μ H N d v) (f : flatD d = true) : flatV v = true := by
  cases d with
  | non => cases h; rfl
  | bl b => cases h; rfl
  | int b => cases h; rfl
  | str b => cases h; rfl
  | _ => cases f
theorem eqFl_ok {d e : D} {v w : V} (h : RepV K μ H N d v) (g : RepV K μ H N e w) (f : flatD d = true) (f' : flatD e = true) : eqV v w = eqFl d e := by
  cases d <;> cases e <;> first | cases f; done | cases f'; done | skip
  all_goals (cases h; cases g; first | rfl | (show (_ == _) = sEq _ _; rw [sEq_eq]; rfl) | skip)
theorem flats_ok : ∀ {ds : List D} {vs : List V}, RepVs K μ H N ds vs → ds.all flatD = true → vs.all flatV = true
  | [], _, h, _ => by cases h; rfl
  | d :: ds, _, ⟨v, r, e, h1, h2⟩, f => by
    subst e
    rw [List.all_cons, Bool.and_eq_true] at f ⊢
    exact ⟨flatD_ok h1 f.1, flats_ok h2 f.2⟩
theorem inFl_ok {d : D} {v : V} (h : RepV K μ H N d v) (f : flatD d = true) : ∀ {ds : List D} {vs : List V}, RepVs K μ H N ds vs → ds.all flatD = true → inV v vs = ds.any fun e => eqFl e d
  | [], _, g, _ => by cases g; rfl
  | e :: ds, _, ⟨w, r, q, h1, h2⟩, f' => by
    subst q
    rw [List.all_cons, Bool.and_eq_true] at f'
    unfold inV
    rw [List.any_cons, List.any_cons, eqFl_ok h1 h f'.1 f]
    congr 1
    exact inFl_ok h f h2 f'.2
/-- the items of a list or a tuple -/
def seqOf (S : Store) : D → Option (List D)
  | .tup xs => some xs
  | d => lstOf S d
theorem RepV.seq (r : Rep K mg μ S H) {d : D} {x : V} {xs : List D} (rv : RepV K μ H S.length d x) (e : seqOf S d = some xs) : ∃ a vs, x = .ref a ∧ (SqL K H a vs ∨ SqT K H a vs) ∧ RepVs K μ H S.length xs vs := by
  cases d with
  | tup ys =>
    cases e
    obtain ⟨a, vs, h1, h2, h3⟩ := rv
    exact ⟨a, vs, h1, .inr h2, h3⟩
  | _ =>
    obtain ⟨a, vs, h1, h2, h3⟩ := RepV.sqL r rv e
    exact ⟨a, vs, h1, .inl h2, h3⟩
end
/-- a sign in a text -/
def oIn (neg : Bool) : Op2 := fun a b S => match b with
  | .str z => match a with
    | .str ⟨⟨[c]⟩⟩ => some (.bl (xor neg (z.cps.toList.any fun k => Nat.beq k c)), S)
    | _ => none
  | b => match seqOf S b with
    | none => none
    | some xs => if flatD a && xs.all flatD then some (.bl (xor neg (xs.any fun e => eqFl e a)), S) else
      match toPy S a, toPy S b with
      | some d, some (.list ds) => if SeqAt.shaped d && SeqAt.shaped (.list ds) then some (.bl (xor neg (ds.any fun z => PyData.eqv z d)), S) else none
      | some d, some (.tuple ds) => if SeqAt.shaped d && SeqAt.shaped (.tuple ds) then some (.bl (xor neg (ds.any fun z => PyData.eqv z d)), S) else none
      | _, _ => none
section
variable {X : Cx} {k : Nat}
theorem Room.u65 (hr : Room k X.A) : X.A.units + 65 < cLine := by have := hr.un; omega
theorem sign_any (c : Nat) (l : List Nat) : decide (c ∈ l) = l.any fun k => Nat.beq k c := by
  rw [Bool.eq_iff_iff]
  simp
theorem opIn_read {neg : Bool} {f : Value → Value → Sem Value}
    (h1 : OpR X f (fun x y H Q => ∃ (c : Nat) (z : Str), x = .str ⟨#[c]⟩ ∧ y = .str z ∧ Q (.bl (xor neg (decide (c ∈ z.cps.toList)))) H))
    (h2 : OpR X f (rIn X.K neg))
    (h3 : OpR X f (fun x y H Q => ∃ d ds, Dp X.K H x d ∧ Dp X.K H y (.list ds) ∧ SeqAt.shaped d = true ∧ SeqAt.shaped (.list ds) = true ∧ Q (.bl (xor neg (ds.any fun z => PyData.eqv z d))) H))
    (h4 : OpR X f (fun x y H Q => ∃ d ds, Dp X.K H x d ∧ Dp X.K H y (.tuple ds) ∧ SeqAt.shaped d = true ∧ SeqAt.shaped (.tuple ds) = true ∧ Q (.bl (xor neg (ds.any fun z => PyData.eqv z d))) H)) :
    OpR X f (r2 X.K X.mg (oIn neg)) := by
  rintro pins s σ H x y v u Q I rx ry ⟨μ, S, d1, d2, r, r1, r2, q⟩
  unfold oIn at q
  split at q
  · rename_i z
    split at q
    · rename_i c
      cases r1
      cases r2
      exact h1 pins s σ H _ _ v u Q I rx ry ⟨c, z, rfl, rfl, q.here r (by rw [sign_any]; rfl)⟩
    · exact q.no.elim
  · split at q
    · exact q.no.elim
    · rename_i xs hs
      obtain ⟨a, vs, rfl, ha, rv⟩ := RepV.seq r r2 hs
      split at q
      · rename_i hf
        rw [Bool.and_eq_true] at hf
        refine h2 pins s σ H _ _ v u Q I rx ry ⟨a, vs, rfl, ha, flatD_ok r1 hf.1, flats_ok rv hf.2, q.here r ?_⟩
        rw [inFl_ok r1 hf.1 rv hf.2]
        cases neg <;> simp [RepV]
      · split at q
        · rename_i d ds e1 e2
          split at q
          · rename_i hc
            rw [Bool.and_eq_true] at hc
            exact h3 pins s σ H _ _ v u Q I rx ry ⟨d, ds, toPy_ok r r1 e1, toPy_ok r r2 e2, hc.1, hc.2, q.here r rfl⟩
          · exact q.no.elim
        · rename_i d ds e1 e2
          split at q
          · rename_i hc
            rw [Bool.and_eq_true] at hc
            exact h4 pins s σ H _ _ v u Q I rx ry ⟨d, ds, toPy_ok r r1 e1, toPy_ok r r2 e2, hc.1, hc.2, q.here r rfl⟩
          · exact q.no.elim
        · exact q.no.elim
theorem op_oIn (hr : Room k X.A) : OpR X (compareOp .In) (r2 X.K X.mg (oIn false)) := by
  refine opIn_read ?_ op_in_seq ?_ ?_
  · rintro pins s σ H x y v u Q I rx ry ⟨c, z, h1, h2, q⟩
    exact op_in_sign pins s σ H x y v u Q I rx ry ⟨c, z, h1, h2, by simpa using q⟩
  · rintro pins s σ H x y v u Q I rx ry ⟨d, ds, h1, h2, h3, h4, q⟩
    exact op_inD (Room.u65 hr) pins s σ H x y v u Q I rx ry ⟨d, ds, h1, h2, h3, h4, by simpa using q⟩
  · rintro pins s σ H x y v u Q I rx ry ⟨d, ds, h1, h2, h3, h4, q⟩
    obtain ⟨as, r1⟩ := Dp.reads I d x v h1 rx
    obtain ⟨bs, r2⟩ := Dp.reads I (.tuple ds) y u h2 ry
    exact SeqAt.in_tuple_reads r2 r1 (SeqAt.canLay_of_shaped h4) (SeqAt.canLay_of_shaped h3) (room_in_shaped h3 (Room.u65 hr)) ⟨.bl _, H, I, rfl, by simpa using q⟩
theorem op_oNotIn (hr : Room k X.A) : OpR X (compareOp .NotIn) (r2 X.K X.mg (oIn true)) := by
  refine opIn_read ?_ op_notIn_seq ?_ ?_
  · rintro pins s σ H x y v u Q I rx ry ⟨c, z, h1, h2, q⟩
    exact op_notIn_sign pins s σ H x y v u Q I rx ry ⟨c, z, h1, h2, by simpa using q⟩
  · rintro pins s σ H x y v u Q I rx ry ⟨d, ds, h1, h2, h3, h4, q⟩
    exact op_notInD (Room.u65 hr) pins s σ H x y v u Q I rx ry ⟨d, ds, h1, h2, h3, h4, by simpa using q⟩
  · rintro pins s σ H x y v u Q I rx ry ⟨d, ds, h1, h2, h3, h4, q⟩
    obtain ⟨as, r1⟩ := Dp.reads I d x v h1 rx
    obtain ⟨bs, r2⟩ := Dp.reads I (.tuple ds) y u h2 ry
    exact SeqAt.notIn_tuple_reads r2 r1 (SeqAt.canLay_of_shaped h4) (SeqAt.canLay_of_shaped h3) (room_in_shaped h3 (Room.u65 hr)) ⟨.bl _, H, I, rfl, by simpa using q⟩
end

/-! ### places -/
def oIx : Op2 := fun a b S => match b with
  | .int i => match a with
    | .str z => if Nat.ble z.cps.toList.length lim then (atI z.cps.toList i).bind fun c => some (.str ⟨⟨[c]⟩⟩, S) else none
    | a => (seqOf S a).bind fun xs => (atI xs i).bind fun d => some (d, S)
  | _ => none
theorem RepVs.atI {K : PySem.W.Frag} {μ : Nat → Addr} {H : Hp} {N : Nat} {ds : List D} {vs : List V} {i : Int} {d : D} (h : RepVs K μ H N ds vs) (e : L2.atI ds i = some d) : ∃ v, L2.atI vs i = some v ∧ RepV K μ H N d v := by
  unfold L2.atI at e ⊢
  rw [← h.length]
  cases hx : ixN ds.length i with
  | none => rw [hx] at e; cases e
  | some j =>
    rw [hx] at e
    exact h.get e
section
variable {X : Cx}
theorem ix_oIx : IxR X (r2 X.K X.mg oIx) := by
  rintro value slice pins s σ H x y v u Q I rx ry ⟨μ, S, d1, d2, r, r1, r2, q⟩ hs
  unfold oIx at q
  split at q
  · rename_i i
    cases r2
    split at q
    · rename_i z
      cases r1
      split at q
      · rename_i hz
        have hl : z.length ≤ sizeLine := by
          have := Nat.le_of_ble_eq_true hz
          have e : z.cps.toList.length = z.length := by simp [Str.length]
          have := lim_le
          omega
        cases hc : atI z.cps.toList i with
        | none => rw [hc] at q; exact q.no.elim
        | some c =>
          rw [hc] at q
          exact ix_str value slice pins s σ H _ _ v u Q I rx ry ⟨z, i, c, rfl, rfl, hl, hc, q.here r rfl⟩ hs
      · exact q.no.elim
    · cases hx : seqOf S d1 with
      | none => rw [hx] at q; exact q.no.elim
      | some xs =>
        rw [hx] at q
        obtain ⟨a, vs, rfl, ha, rv⟩ := RepV.seq r r1 hx
        cases hd : atI xs i with
        | none => simp only [Option.bind_some, hd] at q; exact q.no.elim
        | some d =>
          simp only [Option.bind_some, hd] at q
          obtain ⟨w, e1, e2⟩ := rv.atI hd
          rcases ha with ha | ha
          · exact ix_list value slice pins s σ H _ _ v u Q I rx ry ⟨a, vs, i, w, rfl, rfl, ha, e1, q.here r e2⟩ hs
          · exact ix_tup value slice pins s σ H _ _ v u Q I rx ry ⟨a, vs, i, w, rfl, rfl, ha, e1, q.here r e2⟩ hs
  · exact q.no.elim
end
def oSet : Op3 := fun a b c S => match a, b with
  | .ref n, .int i => match S[n]? with
    | some (.lst xs) => (ixN xs.length i).bind fun j => some (S.set n (.lst (xs.set j c)))
    | _ => none
  | _, _ => none
section
variable {X : Cx}
theorem set_oSet : PSet X (r3 X.K X.mg oSet) := by
  rintro pins s σ H o i v ov iv u Q I ro ri rv ⟨μ, S, d1, d2, d3, S', r, r1, r2, rd, hf, q⟩
  unfold oSet at hf
  split at hf
  · rename_i n k
    split at hf
    · rename_i xs hn
      cases hj : ixN xs.length k with
      | none => rw [hj] at hf; cases hf
      | some j =>
        rw [hj] at hf
        cases hf
        obtain ⟨vs, rfl, h1, h2⟩ := RepV.lstAt r r1 hn
        cases r2
        refine set_list pins s σ H _ _ v ov iv u Q I ro ri rv ⟨_, vs, k, j, rfl, rfl, h1, by rw [← h2.length]; exact hj, q μ _ (After.writeLst r (List.getElem?_eq_some_iff.mp hn).1 (h2.set j rd))⟩
    · cases hf
  · cases hf

/-! ### slices -/
def cutD {α : Type} (xs : List α) (lo hi : Option Int) : List α := (xs.drop (HT.sIx xs.length 0 lo)).take (HT.sIx xs.length xs.length hi - HT.sIx xs.length 0 lo)
theorem RepVs.cut {K : PySem.W.Frag} {μ : Nat → Addr} {H : Hp} {N : Nat} {ds : List D} {vs : List V} (h : RepVs K μ H N ds vs) (lo hi : Option Int) : RepVs K μ H N (cutD ds lo hi) (cutV vs lo hi) := by
  unfold cutD cutV
  rw [← h.length]
  exact (h.drop _).take _
abbrev OpS := D → Option Int → Option Int → Store → Option (D × Store)
def oSl : OpS := fun a lo hi S => match a with
  | .str z => if Nat.ble z.cps.toList.length lim then some (.str ⟨⟨cutD z.cps.toList lo hi⟩⟩, S) else none
  | .tup xs => some (.tup (cutD xs lo hi), S)
  | a => (lstOf S a).bind fun xs => some (.ref S.length, S ++ [.lst (cutD xs lo hi)])
def rSl (K : PySem.W.Frag) (mg : Str → Option Value) (f : OpS) : V → Option Int → Option Int → Hp → VK → Prop := fun x lo hi H Q => ∃ μ S d, Rep K mg μ S H ∧ RepV K μ H S.length d x ∧ Res K mg (f d lo hi S) μ S H Q
theorem sl_oSl : SlR X (rSl X.K X.mg oSl) := by
  rintro pins s σ H x v vl vu lo hi sl Q I rx hs pl pu ⟨μ, S, d, r, r1, q⟩
  unfold oSl at q
  split at q
  · rename_i z
    cases r1
    split at q
    · rename_i hz
      have hl : z.length ≤ sizeLine := by
        have := Nat.le_of_ble_eq_true hz
        have e : z.cps.toList.length = z.length := by simp [Str.length]
        have := lim_le
        omega
      refine sl_str pins s σ H _ v vl vu lo hi sl Q I rx hs pl pu ⟨z, rfl, hl, q.here r ?_⟩
      have e : z.cps.toList.length = z.length := by simp [Str.length]
      simp only [RepV, cutS, cutD, e]
    · exact q.no.elim
  · rename_i xs
    obtain ⟨a, vs, rfl, h1, h2⟩ := r1
    refine sl_tupA pins s σ H _ v vl vu lo hi sl Q I rx hs pl pu ⟨a, vs, rfl, h1, fun hw => ?_, fun _ => q.tup r (h2.cut lo hi)⟩
    refine q.here r ⟨a, vs, rfl, h1, ?_⟩
    unfold cutD
    rw [h2.length, hw.1, hw.2, List.drop_zero, Nat.sub_zero, ← h2.length, List.take_length]
    exact h2
  · cases hx : lstOf S d with
    | none => rw [hx] at q; exact q.no.elim
    | some xs =>
      rw [hx] at q
      obtain ⟨a, vs, rfl, ha, rv⟩ := RepV.sqL r r1 hx
      exact sl_list pins s σ H _ v vl vu lo hi sl Q I rx hs pl pu ⟨a, vs, rfl, ha, q.lst r (rv.cut lo hi)⟩
/-- a part of a slice -/
abbrev FO := Rho → Store → R (Option Int)
def oNo : FO := fun _ S => .ok none S
def oPt (a : FE) : FO := fun ρ S => (a ρ S).bind fun d S1 => match d with
  | .int i => .ok (some i) S1
  | _ => .fail
def tO (K : PySem.W.Frag) (mg : Str → Option Value) (W : WX) (f : FO) : TO := fun σ H Q => ∃ μ S ρ, Rep K mg μ S H ∧ REnv K μ H S.length ρ σ ∧ Pst K mg W σ (f ρ S) μ S H fun o _ _ H' => Q o H'
variable {W : WX} {fa : FE} {fl fh : FO} {lo hi : Option Expr} {e : Expr} {p2 pos : Pos}
abbrev SO (X : Cx) (W : WX) (e : Option Expr) (f : FO) : Prop := PO X e (tO X.K X.mg W f)
theorem so_none : SO X W none oNo := ⟨fun pins s σ H Q I ⟨μ, S, ρ, r, e, p⟩ => po_none.run pins s σ H Q I (p.end_ r)⟩
theorem so_some (h : SE X W e fa) : SO X W (some e) (oPt fa) := ⟨fun pins s σ H Q I ⟨μ, S, ρ, r, en, p⟩ => (po_some h).run pins s σ H Q I ((p.toE r en).mono fun x H1 ⟨d1, μ1, S1, r1, e1, rx, _, p1⟩ => by
  cases d1 with
  | int i => cases rx; exact ⟨i, rfl, p1.end_ r1⟩
  | _ => exact p1.elim)⟩
def fSl (f : OpS) (a : FE) (lo hi : FO) : FE := fun ρ S => (a ρ S).bind fun d S1 => (lo ρ S1).bind fun l S2 => (hi ρ S2).bind fun h S3 => R.of (f d l h S3)
theorem se_sl {f : OpS} (hr : SlR X (rSl X.K X.mg f)) (ha : SE X W e fa) (hl : SO X W lo fl) (hh : SO X W hi fh) : SE X W (.Subscript e (.Slice lo hi none p2) pos) (fSl f fa fl fh) :=
  PE.imp (pe_slice hr ha hl hh) fun σ H Q ⟨μ, S, ρ, r, en, p⟩ => (p.toE r en).mono fun x H1 ⟨d1, μ1, S1, r1, e1, rx, f1, p1⟩ =>
    ⟨μ1, S1, ρ, r1, e1, (Pst.bind p1).imp fun l μ2 S2 H2 f2 p2 => ⟨μ2, S2, ρ, f2.rep, f2.env r1 e1, (Pst.bind p2).imp fun h μ3 S3 H3 f3 p3 => ⟨μ3, S3, d1, f3.rep, f3.val f2.rep (f2.val r1 rx), p3.res⟩⟩⟩
end
end MP

namespace MP
open PySem L2 PySem.Spec PyProof.Rows

/-! ### repr -/
mutual
/-- what repr shows: ints below 2 ** 12900, no dicts -/
def shOk : PyData → Bool
  | .none => true
  | .bool _ => true
  | .str _ => true
  | .int i => Nat.blt i.natAbs.log2 12900
  | .list xs => shOks xs
  | .tuple xs => shOks xs
  | .dict _ => false
def shOks : List PyData → Bool
  | [] => true
  | x :: xs => shOk x && shOks xs
end
section
variable {prog : Program} {w : World} {A : Around} {E : Value → Shared → Prop} {s : Shared} {h₀ : Heap}
theorem big_lt {a : Int} (ha : a.natAbs.log2 < 12900) : a.natAbs < 10 ^ 4300 := Nat.lt_of_lt_of_le (PyProof.Rows.lt_of_log2 ha) pow_lo
theorem call_int_big {a : Int} {t : Tok} {Q : Value → Shared → Prop} (hn : s.heap.NoDigits) (ha : a.natAbs.log2 < 12900) (h : Q (.str (toString a) s.toks) { s with toks := s.toks + 1 }) :
    wpAny (model prog w) A (call (.builtin "int.__repr__") [.int a t]) Q E s := by
  have hlt := big_lt ha
  refine wpAny_call (codeAny_call_builtin F.slot_int_repr.plain F.entry_int_repr (F.slot_int_repr.check _ _ _ _ _ _ _ _ (typeIs_int s a t) (F.args_int_repr_1 _) ?_))
  unfold Builtin.«int.__repr__»
  show wpAny _ _ (do let r ← Builtin.overDigitLimit? a; _) _ _ s
  refine wpAny_bind (overDigitLimit_any hn (fun hlt => ?_) (fun hge => absurd hlt (Nat.not_lt.mpr hge)))
  exact wpAny_bind (wpAny_mkStr (wpAny_pure h) (int_text_fits10 hlt))
theorem reprObj_big {a : Int} {t : Tok} {Q : Value → Shared → Prop} (hn : s.heap.NoDigits) (ha : a.natAbs.log2 < 12900) (h : Q (.str (toString a) s.toks) { s with toks := s.toks + 1 }) :
    wpAny (model prog w) A (pyReprObj (.int a t)) Q E s := by
  unfold pyReprObj
  simp only [cRoomFor, show ([(Value.int a t)].any Value.onHeap) = false from rfl, Bool.false_eq_true, if_false, pure_bind]
  refine wpAny_bind (wpAny_specialOf (name := Str.ofString "__repr__") (typeIs_int s a t) F.slot_int_repr.lookup ?_)
  refine wpAny_bind (m := callSpecialIfBound? (.int a t) (Str.ofString "__repr__")) (wpAny_callSpecialIfBound?_slot (name := Str.ofString "__repr__") (typeIs_int s a t) F.slot_int_repr (call_int_big hn ha ?_))
  exact wpAny_bind (wpAny_isInstance (T := "str") (b := true) rfl isSubtype_str_str (wpAny_pure h))
theorem ReprK.big {a : Int} {t : Tok} {as : List Addr} {d : Nat} (hn : h₀.NoDigits) (ha : a.natAbs.log2 < 12900) : ReprK prog w as h₀ d (.int a t) (toString a) := by
  intro base hb A g E s Q _ _ _ hk hQ
  rw [pyReprUnder_leaf (v := .int a t) (by omega) (fun _ e => nomatch e)]
  unfold pyRepr
  exact wpAny_bind (reprObj_big (hn.keeps hk) ha (wpAny_pure (hQ s.heap _ fun _ _ e => e)))
mutual
theorem reprK_sh (hn : h₀.NoDigits) : ∀ {v : Value} {d : PyData} {as : List Addr}, Reads h₀ v d as → shOk d = true → d.shown.length ≤ sizeLine → ∃ bs, ReadAtMost h₀ d.depth bs ∧ ReprK prog w bs h₀ d.depth v d.shown
  | _, _, _, .none, _, _ => ⟨[], (fun _ h => nomatch h), by simp only [PyData.shown]; exact .of_is ReprIs.none _ _ _⟩
  | _, _, _, .bool b, _, _ => ⟨[], (fun _ h => nomatch h), by simp only [PyData.shown]; exact .of_is (ReprIs.bool b) _ _ _⟩
  | _, _, _, .int i t, hs, _ => ⟨[], (fun _ h => nomatch h), by simp only [PyData.shown]; exact ReprK.big hn (by simpa [shOk, Nat.blt_eq] using hs)⟩
  | _, _, _, .str x t, _, hz => ⟨[], (fun _ h => nomatch h), by simp only [PyData.shown]; exact .of_is (ReprIs.str x t (by simpa only [PyData.shown] using hz)) _ _ _⟩
  | _, _, _, .list (a := a) (vs := vs) (xs := xs) h1 h2 h3 h4, hs, hz => by
    have hz' : (listText (PyData.shownAll xs)).length ≤ sizeLine := by simpa only [PyData.shown] using hz
    obtain ⟨bs, hb, hk⟩ := reprKs_sh hn h4 (by simpa [shOk] using hs) fun t ht => Nat.le_trans (listText_mem_le ht) hz'
    have r : Reads h₀ (.ref a) (.list xs) _ := .list h1 h2 h3 h4
    have hna : a ∉ bs := not_mem_of_deeper r (by simp only [PyData.depth]; omega) hb
    refine ⟨a :: bs, ReadAtMost.cons r (by simp only [PyData.depth]; omega) hb, ?_⟩
    simp only [PyData.depth, PyData.shown]
    obtain ⟨l⟩ := vs
    cases l with
    | nil =>
      cases (show ReadsAll h₀ [] xs _ from h4)
      simp only [PyData.shownAll, listText_nil]
      exact ReprK.listEmpty h1 h2 h3
    | cons x l => exact ReprK.list h1 h2 h3 hna (by simpa using hk.length_eq) fun i y e => hk.item i y (by simpa using e)
  | _, _, _, .tuple (a := a) (xs := xs) h1 h2 h3 h4, hs, hz => by
    have hz' : (tupleText (PyData.shownAll xs)).length ≤ sizeLine := by simpa only [PyData.shown] using hz
    obtain ⟨bs, hb, hk⟩ := reprKs_sh hn h4 (by simpa [shOk] using hs) fun t ht => Nat.le_trans (tupleText_mem_le ht) hz'
    have r : Reads h₀ (.ref a) (.tuple xs) _ := .tuple h1 h2 h3 h4
    have hna : a ∉ bs := not_mem_of_deeper r (by simp only [PyData.depth]; omega) hb
    refine ⟨a :: bs, ReadAtMost.cons r (by simp only [PyData.depth]; omega) hb, ?_⟩
    simp only [PyData.depth, PyData.shown]
    exact ReprK.tuple h1 h2 h3 hna hk
  | _, _, _, .dict _ _ _ _ _, hs, _ => by simp [shOk] at hs
theorem reprKs_sh (hn : h₀.NoDigits) : ∀ {vs : List Value} {ds : List PyData} {as : List Addr}, ReadsAll h₀ vs ds as → shOks ds = true → (∀ t ∈ PyData.shownAll ds, t.length ≤ sizeLine) →
    ∃ bs, ReadAtMost h₀ (PyData.depthAll ds) bs ∧ ReprAllK prog w bs h₀ (PyData.depthAll ds) vs (PyData.shownAll ds)
  | _, _, _, .nil, _, _ => ⟨[], (fun _ h => nomatch h), by simp only [PyData.shownAll]; exact .nil⟩
  | _, _, _, .cons (d := d) (ds := ds) r rs, hs, hz => by
    have hs' : shOk d = true ∧ shOks ds = true := by simpa [shOks] using hs
    obtain ⟨b1, hb1, k1⟩ := reprK_sh hn r hs'.1 (hz _ (by simp only [PyData.shownAll]; exact List.mem_cons_self ..))
    obtain ⟨b2, hb2, k2⟩ := reprKs_sh hn rs hs'.2 fun t ht => hz t (by simp only [PyData.shownAll]; exact List.mem_cons_of_mem _ ht)
    refine ⟨b1 ++ b2, fun b hm => ?_, ?_⟩
    · simp only [PyData.depthAll]
      rcases List.mem_append.mp hm with hm | hm
      · exact hb1.mono (Nat.le_max_left _ _) b hm
      · exact hb2.mono (Nat.le_max_right _ _) b hm
    · simp only [PyData.depthAll, PyData.shownAll]
      exact .cons ((k1.more fun b hb => List.mem_append_left _ hb).level_le (Nat.le_max_left _ _)) (k2.more_le (fun b hb => List.mem_append_right _ hb) (Nat.le_max_right _ _))
end
/-- repr(x) -/
theorem call_repr_sh {v : Value} {d : PyData} {as : List Addr} {Q : Value → Shared → Prop} (hn : s.heap.NoDigits) (r : Reads s.heap v d as) (hs : shOk d = true) (hz : d.shown.length ≤ sizeLine) (hg : A.guards = some []) (hu : A.units + (d.depth + 1) < cLine)
    (hQ : ∀ h' u tk, (∀ b o, s.heap.get? b = some o → h'.get? b = some o) → Q (.str d.shown u) { s with heap := h', toks := tk }) : wpAny (model prog w) A (call (.builtin "repr") [v]) Q E s := by
  cases r with
  | none => simp only [PyData.shown] at hQ; exact PySem.P.repr_of_none (hQ s.heap _ _ fun _ _ e => e)
  | bool b => simp only [PyData.shown] at hQ; exact PySem.P.repr_of_bool (hQ s.heap _ _ fun _ _ e => e)
  | str x t => simp only [PyData.shown] at hQ hz; exact PySem.P.repr_of_str (hQ s.heap _ _ fun _ _ e => e) hz
  | int i t =>
    simp only [PyData.shown] at hQ
    refine Calls.call_function_entry F.kind_repr F.plain_repr F.entry_repr (F.args_repr1 _) ?_
    unfold Builtin.«repr»
    refine wpAny_bind (m := oneArg "repr" _) (wpAny_pure ?_)
    simp only [cRoomFor, show ([(Value.int i t)].any Value.onHeap) = false from rfl, Bool.false_eq_true, if_false, pure_bind]
    refine wpAny_bind (wpAny_specialOf (name := Str.ofString "__repr__") (typeIs_int s i t) F.slot_int_repr.lookup ?_)
    refine wpAny_bind (m := callSpecialIfBound? (.int i t) (Str.ofString "__repr__")) (wpAny_callSpecialIfBound?_slot (name := Str.ofString "__repr__") (typeIs_int s i t) F.slot_int_repr (call_int_big hn (by simpa [shOk, Nat.blt_eq] using hs) ?_))
    refine wpAny_bind (wpAny_isInstance (T := "str") (b := true) rfl isSubtype_str_str ?_)
    exact wpAny_pure ⟨_, rfl, hQ s.heap _ _ fun _ _ e => e⟩
  | list h1 h2 h3 h4 =>
    rename_i a o vs n xs as
    have hz' : (listText (PyData.shownAll xs)).length ≤ sizeLine := by simpa only [PyData.shown] using hz
    obtain ⟨bs, hb, hk⟩ := reprKs_sh (prog := prog) (w := w) hn h4 (by simpa [shOk] using hs) fun t ht => Nat.le_trans (listText_mem_le ht) hz'
    have hna : a ∉ bs := not_mem_of_deeper (.list h1 h2 h3 h4) (by simp only [PyData.depth]; omega) hb
    simp only [PyData.depth] at hu
    simp only [PyData.shown] at hQ
    refine call_repr_slot (by omega) ⟨o, h1, h2⟩ F.slot_list_repr.toG ?_
    obtain ⟨l⟩ := vs
    cases l with
    | nil =>
      cases (show ReadsAll s.heap [] xs _ from h4)
      simp only [PyData.shownAll, listText_nil] at hQ
      exact call_list_repr_empty ⟨o, h1, h2⟩ h1 h3 ⟨_, _, rfl, hQ s.heap _ _ fun _ _ e => e⟩
    | cons x l =>
      exact call_list_reprK h1 h2 h3 hna (by simpa using hk.length_eq) (fun i y e => hk.item i y (by simpa using e)) (A := A.in1) hg (fun b _ => Clear.nil b) (by show A.units + 1 + _ < cLine; omega) (fun _ _ e => e) (fun h' u tk hk => ⟨_, _, rfl, hQ h' u tk hk⟩) hz'
  | tuple h1 h2 h3 h4 =>
    rename_i a o vs n xs
    have hz' : (tupleText (PyData.shownAll xs)).length ≤ sizeLine := by simpa only [PyData.shown] using hz
    obtain ⟨bs, hb, hk⟩ := reprKs_sh (prog := prog) (w := w) hn h4 (by simpa [shOk] using hs) fun t ht => Nat.le_trans (tupleText_mem_le ht) hz'
    have hna : a ∉ bs := not_mem_of_deeper (.tuple h1 h2 h3 h4) (by simp only [PyData.depth]; omega) hb
    simp only [PyData.depth] at hu
    simp only [PyData.shown] at hQ
    refine call_repr_slot (by omega) ⟨o, h1, h2⟩ F.slot_tuple_repr ?_
    exact call_tuple_reprK h1 h2 h3 hna hk (A := A.in1) hg (fun b _ => Clear.nil b) (by show A.units + 1 + _ < cLine; omega) (fun _ _ e => e) (fun h' u tk hk => ⟨_, _, rfl, hQ h' u tk hk⟩) hz'
  | dict _ _ _ _ _ => simp [shOk] at hs
end
end MP

namespace MP
open PySem L2 PySem.Spec PyProof.Rows

/-! ### calls of built-in functions, by values -/
def fCallB (f : OpN) (a : FA) : FE := fun ρ S => (a ρ S).bind fun ds S1 => R.of (f ds S1)
section
variable {X : Cx} {W : WX} {x : Str} {p pos : Pos} {e : Expr} {es : List Expr} {id T : String} {f : OpN} {g : FA}
theorem callB_read {σ : L2.St} {H : Hp} {Q : VK} (h : tE X.K X.mg W (fCallB f g) σ H Q) : tCB (rN X.K X.mg f) (tA X.K X.mg W g) σ H Q := by
  obtain ⟨μ, S, ρ, r, en, q⟩ := h
  exact (q.toA r en).mono fun xs H1 ⟨ds, μ1, S1, r1, e1, rx, _, p1⟩ => ⟨μ1, S1, ds, r1, rx, p1.res⟩
theorem se_callB (hc : CallR X (.builtin id) (rN X.K X.mg f)) (hg : Gl X x) (hm : X.mg x = none) (hv : bootBuiltins x = some (.builtin id)) (ha : SA X W (e :: es) g) (hn : x ≠ "__name__") (hdb : (x == ("__debug__" : Str)) = false)
    (he : starEach (e :: es) X.env = (false, eval e X.env) :: starEach es X.env) (hpl : (backTo pos (starEach es X.env)).any (·.1) = false) : SE X W (.Call (.Name x p) (e :: es) [] pos) (fCallB f g) :=
  PE.imp (pe_callB hc hg hm hv ha hn hdb he hpl) fun _ _ _ h => callB_read h
theorem se_callTy (hc : CallR X (.type T) (rN X.K X.mg f)) (hg : Gl X x) (hm : X.mg x = none) (hv : bootBuiltins x = some (.type T)) (ha : SA X W (e :: es) g) (hn : x ≠ "__name__") (hdb : (x == ("__debug__" : Str)) = false)
    (he : starEach (e :: es) X.env = (false, eval e X.env) :: starEach es X.env) (hpl : (backTo pos (starEach es X.env)).any (·.1) = false) : SE X W (.Call (.Name x p) (e :: es) [] pos) (fCallB f g) :=
  PE.imp (pe_callTy hc hg hm hv ha hn hdb he hpl) fun _ _ _ h => callB_read h
/-- the shape of a rule by one value -/
theorem callR1 {fv : Value} {f1 : Op1} (h : ∀ (pins : List (Addr × Obj)) (s : Shared) (σ : L2.St) (H : Hp) (x : V) (us : List Value) (Q : VK) (μ : Nat → Addr) (S : Store) (d : D), Inv X pins σ H s → Vals [x] us → Rep X.K X.mg μ S H → RepV X.K μ H S.length d x → Res X.K X.mg (f1 d S) μ S H Q →
      wpAny (model X.prog X.w) X.A (call fv us) (EP X pins σ Q) X.xe s) : CallR X fv (rN X.K X.mg fun ds S => match ds with | [d] => f1 d S | _ => none) := by
  rintro pins s σ H xs us Q I r ⟨μ, S, ds, rp, rv, q⟩
  match ds with
  | [] => exact q.no.elim
  | [d] =>
    obtain ⟨v, r', e1, h1, h2⟩ := rv
    cases h2
    subst e1
    exact h pins s σ H v us Q μ S d I r rp h1 q
  | _ :: _ :: _ => exact q.no.elim
def o1 (f1 : Op1) : OpN := fun ds S => match ds with | [d] => f1 d S | _ => none
def o2 (f2 : Op2) : OpN := fun ds S => match ds with | [d, e] => f2 d e S | _ => none
theorem callR2 {fv : Value} {f2 : Op2} (h : ∀ (pins : List (Addr × Obj)) (s : Shared) (σ : L2.St) (H : Hp) (x y : V) (us : List Value) (Q : VK) (μ : Nat → Addr) (S : Store) (d e : D), Inv X pins σ H s → Vals [x, y] us → Rep X.K X.mg μ S H → RepV X.K μ H S.length d x → RepV X.K μ H S.length e y → Res X.K X.mg (f2 d e S) μ S H Q →
      wpAny (model X.prog X.w) X.A (call fv us) (EP X pins σ Q) X.xe s) : CallR X fv (rN X.K X.mg (o2 f2)) := by
  rintro pins s σ H xs us Q I r ⟨μ, S, ds, rp, rv, q⟩
  match ds with
  | [] => exact q.no.elim
  | [d] => exact q.no.elim
  | [d, e] =>
    obtain ⟨v, r', e1, h1, w, r'', e2, h2, h3⟩ := rv
    cases h3
    subst e2
    subst e1
    exact h pins s σ H v w us Q μ S d e I r rp h1 h2 q
  | _ :: _ :: _ :: _ => exact q.no.elim
def oLen : Op1 := fun d S => match d with
  | .str z => if Nat.ble z.cps.toList.length lim then some (.int z.cps.toList.length, S) else none
  | d => (seqOf S d).bind fun xs => some (.int xs.length, S)
theorem call_oLen : CallR X (.builtin "len") (rN X.K X.mg (o1 oLen)) := callR1 fun pins s σ H x us Q μ S d I r rp rd q => by
  unfold oLen at q
  split at q
  · rename_i z
    cases rd
    split at q
    · rename_i hz
      have e : z.cps.toList.length = z.length := by simp [Str.length]
      have hl : z.length ≤ sizeLine := by
        have := Nat.le_of_ble_eq_true hz
        have := lim_le
        omega
      rw [e] at q
      exact call_len pins s σ H _ us Q I r ⟨.str z, z.length, rfl, ⟨hl, rfl⟩, q.here rp rfl⟩
    · exact q.no.elim
  · cases hx : seqOf S d with
    | none => rw [hx] at q; exact q.no.elim
    | some xs =>
      rw [hx] at q
      obtain ⟨a, vs, rfl, ha, rv⟩ := RepV.seq rp rd hx
      exact call_len_seq pins s σ H _ us Q I r ⟨a, vs, rfl, ha, q.here rp (by rw [rv.length]; rfl)⟩
def oAbs : Op1 := fun d S => match d with
  | .int i => some (.int (if i < 0 then -i else i), S)
  | _ => none
theorem call_oAbs : CallR X (.builtin "abs") (rN X.K X.mg (o1 oAbs)) := callR1 fun pins s σ H x us Q μ S d I r rp rd q => by
  unfold oAbs at q
  split at q
  · cases rd
    exact call_abs pins s σ H _ us Q I r ⟨_, rfl, q.here rp rfl⟩
  · exact q.no.elim
def oInt : Op1 := fun d S => match d with
  | .int i => some (.int i, S)
  | .bl k => some (.int (if k then 1 else 0), S)
  | _ => none
theorem call_oInt : CallR X (.type "int") (rN X.K X.mg (o1 oInt)) := callR1 fun pins s σ H x us Q μ S d I r rp rd q => by
  unfold oInt at q
  split at q
  · cases rd
    exact call_int1 pins s σ H _ us Q I r (.inl ⟨_, rfl, q.here rp rfl⟩)
  · cases rd
    exact call_int1 pins s σ H _ us Q I r (.inr ⟨_, rfl, q.here rp rfl⟩)
  · exact q.no.elim
def oMax2 : Op2 := fun a b S => match a, b with
  | .int i, .int j => some (.int (if j > i then j else i), S)
  | _, _ => none
def oMin2 : Op2 := fun a b S => match a, b with
  | .int i, .int j => some (.int (if j < i then j else i), S)
  | _, _ => none
theorem call_oMax2 (hc : X.calm = true) : CallR X (.builtin "max") (rN X.K X.mg (o2 oMax2)) := callR2 fun pins s σ H x y us Q μ S d e I r rp rd re q => by
  unfold oMax2 at q
  split at q
  · cases rd; cases re
    exact call_max2 hc pins s σ H _ us Q I r ⟨_, _, rfl, q.here rp rfl⟩
  · exact q.no.elim
theorem call_oMin2 (hc : X.calm = true) : CallR X (.builtin "min") (rN X.K X.mg (o2 oMin2)) := callR2 fun pins s σ H x y us Q μ S d e I r rp rd re q => by
  unfold oMin2 at q
  split at q
  · cases rd; cases re
    exact call_min2 hc pins s σ H _ us Q I r ⟨_, _, rfl, q.here rp rfl⟩
  · exact q.no.elim
def intsOf : List D → Option (List Int)
  | [] => some []
  | .int i :: r => (intsOf r).map (i :: ·)
  | _ :: _ => none
def blsOf : List D → Option (List Bool)
  | [] => some []
  | .bl i :: r => (blsOf r).map (i :: ·)
  | _ :: _ => none
theorem intsOf_ok {K : PySem.W.Frag} {μ : Nat → Addr} {H : Hp} {N : Nat} : ∀ {ds : List D} {vs : List V} {ns : List Int}, RepVs K μ H N ds vs → intsOf ds = some ns → vs = ns.map V.int
  | [], _, _, h, e => by cases h; cases e; rfl
  | .int i :: r, _, _, ⟨v, q, e1, h1, h2⟩, e => by
    obtain ⟨ns, e2, e3⟩ := map_some (show (intsOf r).map (i :: ·) = some _ from e)
    subst e1
    subst e3
    cases h1
    rw [List.map_cons, intsOf_ok h2 e2]
  | .non :: _, _, _, _, e => by cases e
  | .bl _ :: _, _, _, _, e => by cases e
  | .str _ :: _, _, _, _, e => by cases e
  | .tup _ :: _, _, _, _, e => by cases e
  | .rl _ :: _, _, _, _, e => by cases e
  | .ref _ :: _, _, _, _, e => by cases e
theorem blsOf_ok {K : PySem.W.Frag} {μ : Nat → Addr} {H : Hp} {N : Nat} : ∀ {ds : List D} {vs : List V} {ns : List Bool}, RepVs K μ H N ds vs → blsOf ds = some ns → vs = ns.map V.bl
  | [], _, _, h, e => by cases h; cases e; rfl
  | .bl i :: r, _, _, ⟨v, q, e1, h1, h2⟩, e => by
    obtain ⟨ns, e2, e3⟩ := map_some (show (blsOf r).map (i :: ·) = some _ from e)
    subst e1
    subst e3
    cases h1
    rw [List.map_cons, blsOf_ok h2 e2]
  | .non :: _, _, _, _, e => by cases e
  | .int _ :: _, _, _, _, e => by cases e
  | .str _ :: _, _, _, _, e => by cases e
  | .tup _ :: _, _, _, _, e => by cases e
  | .rl _ :: _, _, _, _, e => by cases e
  | .ref _ :: _, _, _, _, e => by cases e
def oSum : Op1 := fun d S => ((lstOf S d).bind intsOf).bind fun ns => some (.int ns.sum, S)
theorem call_oSum (hc : X.calm = true) : CallR X (.builtin "sum") (rN X.K X.mg (o1 oSum)) := callR1 fun pins s σ H x us Q μ S d I r rp rd q => by
  unfold oSum at q
  cases hx : lstOf S d with
  | none => rw [hx] at q; exact q.no.elim
  | some xs =>
    cases hn : intsOf xs with
    | none => simp only [hx, Option.bind_some, hn] at q; exact q.no.elim
    | some ns =>
      simp only [hx, Option.bind_some, hn] at q
      obtain ⟨a, vs, rfl, ha, rv⟩ := RepV.sqL rp rd hx
      rw [intsOf_ok rv hn] at ha
      exact cr_sum hc pins s σ H _ us Q I r ⟨a, ns, rfl, ha, q.here rp rfl⟩
def oAll : Op1 := fun d S => ((lstOf S d).bind blsOf).bind fun ns => some (.bl (ns.all fun b => b), S)
theorem call_oAll (hc : X.calm = true) : CallR X (.builtin "all") (rN X.K X.mg (o1 oAll)) := callR1 fun pins s σ H x us Q μ S d I r rp rd q => by
  unfold oAll at q
  cases hx : lstOf S d with
  | none => rw [hx] at q; exact q.no.elim
  | some xs =>
    cases hn : blsOf xs with
    | none => simp only [hx, Option.bind_some, hn] at q; exact q.no.elim
    | some ns =>
      simp only [hx, Option.bind_some, hn] at q
      obtain ⟨a, vs, rfl, ha, rv⟩ := RepV.sqL rp rd hx
      rw [blsOf_ok rv hn] at ha
      exact cr_all hc pins s σ H _ us Q I r ⟨a, ns, rfl, ha, q.here rp rfl⟩
def oAny : Op1 := fun d S => ((lstOf S d).bind blsOf).bind fun ns => some (.bl (ns.any fun b => b), S)
theorem call_oAny (hc : X.calm = true) : CallR X (.builtin "any") (rN X.K X.mg (o1 oAny)) := callR1 fun pins s σ H x us Q μ S d I r rp rd q => by
  unfold oAny at q
  cases hx : lstOf S d with
  | none => rw [hx] at q; exact q.no.elim
  | some xs =>
    cases hn : blsOf xs with
    | none => simp only [hx, Option.bind_some, hn] at q; exact q.no.elim
    | some ns =>
      simp only [hx, Option.bind_some, hn] at q
      obtain ⟨a, vs, rfl, ha, rv⟩ := RepV.sqL rp rd hx
      rw [blsOf_ok rv hn] at ha
      exact cr_any hc pins s σ H _ us Q I r ⟨a, ns, rfl, ha, q.here rp rfl⟩
def oList : Op1 := fun d S => (seqOf S d).bind fun xs => some (.ref S.length, S ++ [.lst xs])
theorem call_oList : CallR X (.type "list") (rN X.K X.mg (o1 oList)) := callR1 fun pins s σ H x us Q μ S d I r rp rd q => by
  unfold oList at q
  cases hx : seqOf S d with
  | none => rw [hx] at q; exact q.no.elim
  | some xs =>
    rw [hx] at q
    obtain ⟨a, vs, rfl, ha, rv⟩ := RepV.seq rp rd hx
    exact call_list_of pins s σ H _ us Q I r ⟨a, vs, rfl, ha, q.lst rp rv⟩
def oTuple : Op1 := fun d S => (seqOf S d).bind fun xs => some (.tup xs, S)
theorem call_oTuple : CallR X (.type "tuple") (rN X.K X.mg (o1 oTuple)) := callR1 fun pins s σ H x us Q μ S d I r rp rd q => by
  unfold oTuple at q
  cases hx : seqOf S d with
  | none => rw [hx] at q; exact q.no.elim
  | some xs =>
    rw [hx] at q
    obtain ⟨a, vs, rfl, ha, rv⟩ := RepV.seq rp rd hx
    refine call_tuple_of pins s σ H _ us Q I r ⟨a, vs, rfl, ?_⟩
    rcases ha with ha | ha
    · exact .inl ⟨ha, q.tup rp rv⟩
    · exact .inr ⟨ha, q.here rp ⟨a, vs, rfl, ha, rv⟩⟩
def oDivmod : Op2 := fun a b S => match a, b with
  | .int i, .int j => if cDiv i j then some (.tup [.int (i / j), .int (i % j)], S) else none
  | _, _ => none
theorem call_oDivmod : CallR X (.builtin "divmod") (rN X.K X.mg (o2 oDivmod)) := callR2 fun pins s σ H x y us Q μ S d e I r rp rd re q => by
  unfold oDivmod at q
  split at q
  · cases rd; cases re
    split at q
    · rename_i i j hc
      obtain ⟨h1, h2⟩ := cDiv_ok hc
      exact call_divmodW pins s σ H _ us Q I r ⟨i, j, rfl, ⟨h1, PyProof.noPylong_of_log2 h2⟩, q.tup rp ⟨_, _, rfl, rfl, _, _, rfl, rfl, rfl⟩⟩
    · exact q.no.elim
  · exact q.no.elim
/-- no limit of digits is set -/
def NoDig (K : PySem.W.Frag) : Prop := ∀ h : Heap, K.In h → h.NoLimit → h.NoDigits
/-- the text of a value -/
def oRepr : Op1 := fun d S => match toPy S d with
  | some p => if shOk p && Nat.ble p.depth 64 then (let t := p.shown; if Nat.ble t.cps.toList.length lim then some (.str t, S) else none) else none
  | none => none
theorem call_oRepr {k : Nat} (hr : Rm k X.A) (hN : NoDig X.K) : CallR X (.builtin "repr") (rN X.K X.mg (o1 oRepr)) := callR1 fun pins s σ H x us Q μ S d I r rp rd q => by
  unfold oRepr at q
  split at q
  · rename_i p hp
    split at q
    · rename_i hc
      have hc' : shOk p = true ∧ Nat.ble p.depth 64 = true := by simpa using hc
      have hd : p.depth ≤ 64 := Nat.le_of_ble_eq_true hc'.2
      dsimp only at q
      split at q
      · rename_i hz
        have e : p.shown.cps.toList.length = p.shown.length := by simp [Str.length]
        have hl : p.shown.length ≤ sizeLine := by
          have := Nat.le_of_ble_eq_true hz
          have := lim_le
          omega
        obtain ⟨u, rfl, ru⟩ := vals1 r
        obtain ⟨as, rr⟩ := Dp.reads I p x u (toPy_ok rp rd hp) ru
        refine call_repr_sh (hN _ I.kIn I.nolimit) rr hc'.1 hl hr.g (by have := hr.r.un; omega) fun h' u' tk hk => ?_
        exact ⟨.str p.shown, H, I.kept (t' := tk) hk, ⟨_, rfl⟩, q.here rp rfl⟩
      · exact q.no.elim
    · exact q.no.elim
  · exact q.no.elim
def oStr : Op1 := fun d S => match d with
  | .int i => if Nat.blt i.natAbs.log2 1920 then some (.str (toString i), S) else none
  | .str z => some (.str z, S)
  | _ => none
theorem call_oStr : CallR X (.type "str") (rN X.K X.mg (o1 oStr)) := callR1 fun pins s σ H x us Q μ S d I r rp rd q => by
  unfold oStr at q
  split at q
  · cases rd
    split at q
    · rename_i i hc
      exact call_str_int pins s σ H _ us Q I r ⟨i, rfl, by simpa [Nat.blt_eq] using hc, q.here rp rfl⟩
    · exact q.no.elim
  · cases rd
    exact SkE.call_str_str pins s σ H _ us Q I r ⟨_, rfl, q.here rp rfl⟩
  · exact q.no.elim

/-! ### isinstance -/
inductive Ty where
  | non | bool | int | str | tuple | list | dict
def Ty.nm : Ty → String
  | .non => "NoneType" | .bool => "bool" | .int => "int" | .str => "str" | .tuple => "tuple" | .list => "list" | .dict => "dict"
def Ty.ix : Ty → Nat
  | .non => 0 | .bool => 1 | .int => 2 | .str => 3 | .tuple => 4 | .list => 5 | .dict => 6
def isTy (a b : Ty) : Bool := match a, b with
  | .bool, .int => true
  | a, b => Nat.beq a.ix b.ix
theorem kit_isTy (K : PySem.W.Frag) (a b : Ty) : PySem.W.kitOne K (.type a.nm) (.type b.nm) = some (isTy a b) := by
  cases a <;> cases b <;> exact kit_ty (by decide +kernel)
def tyD (S : Store) : D → Option Ty
  | .non => some .non
  | .bl _ => some .bool
  | .int _ => some .int
  | .str _ => some .str
  | .tup _ => some .tuple
  | .rl _ => some .list
  | .ref n => match S[n]? with
    | some (.lst _) => some .list
    | some (.dct _) => some .dict
    | _ => none
theorem tyD_ok {K : PySem.W.Frag} {mg : Str → Option Value} {μ : Nat → Addr} {H : Hp} {S : Store} (r : Rep K mg μ S H) {d : D} {v : V} {t : Ty} (h : RepV K μ H S.length d v) (e : tyD S d = some t) : TyX K H v (.type t.nm) := by
  cases d with
  | non => cases h; cases e; exact .base .non
  | bl b => cases h; cases e; exact .base (.bl b)
  | int b => cases h; cases e; exact .base (.int b)
  | str b => cases h; cases e; exact .base (.str b)
  | tup xs =>
    cases e
    obtain ⟨a, vs, rfl, h1, _⟩ := h
    rcases h1 with (h1 | ⟨o, h1⟩) | ⟨o, its, n, h1, h2, _⟩
    · exact .base (.tup h1)
    · exact .fTuple h1
    · exact .kTuple h1 h2
  | rl xs =>
    cases e
    obtain ⟨a, vs, rfl, h1, _⟩ := h
    rcases h1 with ⟨o, h1⟩ | ⟨o, its, n, h1, h2, _⟩
    · exact .base (.frz h1)
    · exact .kList h1 h2
  | ref n =>
    simp only [tyD] at e
    split at e
    · rename_i xs hx
      cases e
      obtain ⟨vs, rfl, h1, _⟩ := RepV.lstAt r h hx
      exact .base (.lst h1)
    · rename_i xs hx
      cases e
      obtain ⟨vs, h1, _⟩ := r.obj n _ hx
      obtain ⟨_, rfl⟩ := h
      exact .base (.dK h1)
    · cases e
def fIsi (t : Ty) (a : FE) : FE := fun ρ S => (a ρ S).bind fun d S1 => match tyD S1 d with
  | some u => .ok (.bl (isTy u t)) S1
  | none => .fail
variable {fa fb fc : FE} {a b c : Expr} {p1 p2 p3 : Pos} {y : Str}
theorem se_isi {t : Ty} (ha : SE X W a fa) (hg : Gl X "isinstance") (hm : X.mg "isinstance" = none) (hgT : Gl X y) (hmT : X.mg y = none) (hT : bootBuiltins y = some (.type t.nm)) (hn : y ≠ "__name__") (hd : (y == ("__debug__" : Str)) = false)
    (he : starEach [a, .Name y p1] X.env = (false, eval a X.env) :: starEach [.Name y p1] X.env) (he2 : starEach [.Name y p1] X.env = (false, eval (.Name y p1) X.env) :: starEach [] X.env) (hpl : (backTo pos (starEach [.Name y p1] X.env)).any (·.1) = false)
    (hdd : (("isinstance" : Str) == ("__debug__" : Str)) = false) (hnn : ("isinstance" : Str) ≠ "__name__") (hbi : bootBuiltins "isinstance" = some (.builtin "isinstance")) :
    SE X W (.Call (.Name "isinstance" p) [a, .Name y p1] [] pos) (fIsi t fa) := by
  have hy : PE X (.Name y p1) (tC (.ty t.nm)) := pe_bltn hgT hmT hT rfl hn hd
  refine PE.imp (pe_callB call_isi hg hm hbi (pa_cons ha (pa_cons hy pa_nil he2) he) hnn hdd he hpl) fun σ H Q h => ?_
  obtain ⟨μ, S, ρ, r, en, q⟩ := h
  refine (q.toE r en).mono fun x H1 ⟨d, μ1, S1, r1, e1, rx, _, p1⟩ => ?_
  cases ht : tyD S1 d with
  | none => simp only [ht] at p1; exact p1.elim
  | some u =>
    simp only [ht] at p1
    exact ⟨x, .ty t.nm, _, _, isTy u t, rfl, .ty _, tyD_ok r1 rx ht, kit_isTy X.K u t, p1.end_ r1 _ rfl⟩

/-! ### a if c else b -/
def fIfE (t a b : FE) : FE := fun ρ S => (t ρ S).bind fun x S1 => match x with
  | .bl k => (fun (k : Bool) S1 => if k = true then a ρ S1 else b ρ S1) k S1
  | _ => .fail
theorem se_ifE (hc : ST X W c fc) (ha : SE X W a fa) (hb : SE X W b fb) : SE X W (.IfExp c a b pos) (fIfE fc fa fb) :=
  PE.imp (pe_ifExp hc ha hb) fun σ H Q h => by
    obtain ⟨μ, S, ρ, r, en, q⟩ := h
    refine (Pst.toT (g := fun (k : Bool) S1 => if k = true then fa ρ S1 else fb ρ S1) r en q).mono fun k H1 ⟨μ1, S1, r1, e1, _, q1⟩ => ?_
    cases k with
    | true => rw [if_pos rfl] at *; exact ⟨μ1, S1, ρ, r1, e1, q1⟩
    | false => rw [if_neg Bool.false_ne_true] at *; exact ⟨μ1, S1, ρ, r1, e1, q1⟩
end

/-! ### methods of built-in types, by values -/
abbrev OpM := D → List D → Store → Option (D × Store)
/-- the receiver's type, as the kit's rules want it -/
def tyB (S : Store) : D → Ty → Bool
  | .str _, .str => true
  | .int _, .int => true
  | .rl _, .list => true
  | .ref n, .list => match S[n]? with
    | some (.lst _) => true
    | _ => false
  | .ref n, .dict => match S[n]? with
    | some (.dct _) => true
    | _ => false
  | _, _ => false
theorem tyB_ok {K : PySem.W.Frag} {mg : Str → Option Value} {μ : Nat → Addr} {H : Hp} {S : Store} (r : Rep K mg μ S H) {d : D} {v : V} {t : Ty} (h : RepV K μ H S.length d v) (e : tyB S d t = true) : tyV K t.nm v H := by
  unfold tyB at e
  split at e
  · cases h; rfl
  · cases h; rfl
  · obtain ⟨a, vs, rfl, h1, _⟩ := h
    exact .inl ⟨rfl, vs, h1.sqL⟩
  · split at e
    · rename_i xs hx
      obtain ⟨vs, rfl, h1, _⟩ := RepV.lstAt r h hx
      exact .inl ⟨rfl, vs, .inl (.inl h1)⟩
    · cases e
  · rename_i n
    split at e
    · rename_i xs hx
      obtain ⟨vs, h1, _⟩ := r.obj n _ hx
      obtain ⟨_, rfl⟩ := h
      exact .inr (.inr (.inl ⟨rfl, .inl ⟨vs, h1⟩⟩))
    · cases e
  · cases e
def rM (K : PySem.W.Frag) (mg : Str → Option Value) (f : OpM) : V → List V → Hp → VK → Prop := fun x xs H Q => ∃ μ S d ds, Rep K mg μ S H ∧ RepV K μ H S.length d x ∧ RepVs K μ H S.length ds xs ∧ Res K mg (f d ds S) μ S H Q
def fBM (t : Ty) (f : OpM) (o : FE) (a : FA) : FE := fun ρ S => (o ρ S).bind fun d S1 => if tyB S1 d t = true then (a ρ S1).bind fun ds S2 => R.of (f d ds S2) else .fail
section
variable {X : Cx} {W : WX} {o e : Expr} {es : List Expr} {fo : FE} {g : FA} {name : Str} {apos cpos : Pos} {id : String} {t : Ty} {f : OpM}
theorem se_bm (pa : PlainAttrs t.nm) (slot : Slot t.nm name id) (hty : typeOf (.builtin id) = pure (.type "method_descriptor")) (hm : MtR X id (rM X.K X.mg f)) (ho : SE X W o fo) (ha : SA X W (e :: es) g)
    (hbase : attributeBase o name X.env (eval o X.env) = eval o X.env)
    (hfew : ((backTo cpos (starEach (e :: es) X.env)).all (fun x => !x.1) && (backToKw cpos (keywordEach [] X.env)).all (fun x => x.1.isSome)
      && decide ((e :: es).length + ([] : List Keyword).length + (if ([] : List Keyword).isEmpty then 0 else 1) < 30)) = true)
    (hline : (apos.endLine == cpos.line) = true) (hs : starEach (e :: es) X.env = (false, eval e X.env) :: starEach es X.env) (hplain : (backTo cpos (starEach es X.env)).any (·.1) = false) :
    SE X W (.Call (.Attribute o name apos) (e :: es) [] cpos) (fBM t f fo g) :=
  PE.imp (pe_bm pa slot hty hm ho ha hbase hfew hline hs hplain) fun σ H Q h => by
    obtain ⟨μ, S, ρ, r, en, q⟩ := h
    refine (q.toE r en).mono fun x H1 ⟨d, μ1, S1, r1, e1, rx, _, p1⟩ => ?_
    split at p1
    · rename_i hb
      exact ⟨tyB_ok r1 rx hb, (p1.toA r1 e1).mono fun xs H2 ⟨ds, μ2, S2, r2, e2, rxs, f2, p2⟩ => ⟨μ2, S2, d, ds, r2, f2.val r1 rx, rxs, p2.res⟩⟩
    · exact p1.elim
theorem se_bm0 (pa : PlainAttrs t.nm) (slot : Slot t.nm name id) (hty : typeOf (.builtin id) = pure (.type "method_descriptor")) (hm : MtR X id (rM X.K X.mg f)) (ho : SE X W o fo)
    (hbase : attributeBase o name X.env (eval o X.env) = eval o X.env) (hline : (apos.endLine == cpos.line) = true) :
    SE X W (.Call (.Attribute o name apos) [] [] cpos) (fBM t f fo aNil) :=
  PE.imp (pe_bm0 pa slot hty hm ho hbase hline) fun σ H Q h => by
    obtain ⟨μ, S, ρ, r, en, q⟩ := h
    refine (q.toE r en).mono fun x H1 ⟨d, μ1, S1, r1, e1, rx, _, p1⟩ => ?_
    split at p1
    · rename_i hb
      exact ⟨tyB_ok r1 rx hb, μ1, S1, d, [], r1, rx, rfl, Pst.res p1⟩
    · exact p1.elim
def mApp : OpM := fun d ds S => match d, ds with
  | .ref n, [y] => match S[n]? with
    | some (.lst xs) => if Nat.blt xs.length 16777216 then some (.non, S.set n (.lst (xs ++ [y]))) else none
    | _ => none
  | _, _ => none
theorem After.writeAt {K : PySem.W.Frag} {mg : Str → Option Value} {μ : Nat → Addr} {H : Hp} {S : Store} {n : Nat} {xs ys : List D} {vs : List V} (r : Rep K mg μ S H) (e : S[n]? = some (.lst xs)) (h : RepVs K μ H S.length ys vs) : After K mg μ S H μ (S.set n (.lst ys)) (upd H (μ n) (.lst vs)) :=
  After.writeLst r (List.getElem?_eq_some_iff.mp e).1 h
theorem mt_mApp : MtR X "list.append" (rM X.K X.mg mApp) := by
  rintro pins s σ H x xs v us Q I rx rxs ⟨μ, S, d, ds, r, rd, rds, q⟩
  unfold mApp at q
  split at q
  · rename_i n y
    split at q
    · rename_i ys hn
      split at q
      · rename_i hc
        obtain ⟨vs, rfl, h1, h2⟩ := RepV.lstAt r rd hn
        obtain ⟨w, _, rfl, rw1, rfl⟩ := rds
        exact mt_append pins s σ H _ _ v us Q I rx rxs ⟨_, vs, w, rfl, rfl, h1, by rw [sizeLine_eq, ← h2.length]; simpa [Nat.blt_eq] using hc, q.get _ _ _ (After.writeAt r hn (h2.append (RepVs.one rw1))) rfl⟩
      · exact q.no.elim
    · exact q.no.elim
  · exact q.no.elim
def mExt : OpM := fun d ds S => match d, ds with
  | .ref n, [.ref m] => match S[n]?, S[m]? with
    | some (.lst xs), some (.lst ys) => if Nat.ble (xs.length + ys.length) 16777216 then some (.non, S.set n (.lst (xs ++ ys))) else none
    | _, _ => none
  | _, _ => none
theorem mt_mExt : MtR X "list.extend" (rM X.K X.mg mExt) := by
  rintro pins s σ H x xs v us Q I rx rxs ⟨μ, S, d, ds, r, rd, rds, q⟩
  unfold mExt at q
  split at q
  · rename_i n m
    split at q
    · rename_i ys zs hn hm
      split at q
      · rename_i hc
        obtain ⟨vs, rfl, h1, h2⟩ := RepV.lstAt r rd hn
        obtain ⟨w, _, rfl, rw1, rfl⟩ := rds
        obtain ⟨ws, rfl, g1, g2⟩ := RepV.lstAt r rw1 hm
        exact mt_extend pins s σ H _ _ v us Q I rx rxs ⟨_, _, vs, ws, rfl, rfl, h1, g1, by rw [sizeLine_eq, ← h2.length, ← g2.length]; exact Nat.le_of_ble_eq_true hc, q.get _ _ _ (After.writeAt r hn (h2.append g2)) rfl⟩
      · exact q.no.elim
    · exact q.no.elim
  · exact q.no.elim
theorem RepVs.dropLast {K : PySem.W.Frag} {μ : Nat → Addr} {H : Hp} {N : Nat} {d : List D} {v : List V} (h : RepVs K μ H N d v) : RepVs K μ H N d.dropLast v.dropLast := by
  rw [List.dropLast_eq_take, List.dropLast_eq_take, ← h.length]
  exact h.take _
def mPop : OpM := fun d ds S => match d, ds with
  | .ref n, [] => match S[n]? with
    | some (.lst xs) => match xs[xs.length - 1]? with
      | some y => some (y, S.set n (.lst xs.dropLast))
      | none => none
    | _ => none
  | _, _ => none
theorem mt_mPop : MtR X "list.pop" (rM X.K X.mg mPop) := by
  rintro pins s σ H x xs v us Q I rx rxs ⟨μ, S, d, ds, r, rd, rds, q⟩
  unfold mPop at q
  split at q
  · rename_i n
    split at q
    · rename_i ys hn
      split at q
      · rename_i y hy
        obtain ⟨vs, rfl, h1, h2⟩ := RepV.lstAt r rd hn
        cases rds
        obtain ⟨w, hw, rw1⟩ := h2.get hy
        have f := After.writeAt r hn h2.dropLast
        exact mt_pop pins s σ H _ _ v us Q I rx rxs ⟨_, vs, w, rfl, rfl, h1, by rw [← h2.length]; exact hw, q.get _ _ _ f (f.val r rw1)⟩
      · exact q.no.elim
    · exact q.no.elim
  · exact q.no.elim
/-- the first place -/
def ixOf (d : PyData) : List PyData → Nat → Option Nat
  | [], _ => none
  | z :: r, i => if PyData.eqv z d then some i else ixOf d r (i + 1)
theorem ixOf_ok {d : PyData} : ∀ {ds : List PyData} {i j : Nat}, ixOf d ds i = some j → ∃ k z, j = i + k ∧ ds[k]? = some z ∧ PyData.eqv z d = true ∧ ∀ (m : Nat) (z' : PyData), m < k → ds[m]? = some z' → PyData.eqv z' d = false
  | [], _, _, e => by cases e
  | z :: r, i, j, e => by
    unfold ixOf at e
    split at e
    · rename_i h
      cases e
      exact ⟨0, z, rfl, rfl, h, fun m z' hm => absurd hm (Nat.not_lt_zero _)⟩
    · rename_i h
      obtain ⟨k, z1, h1, h2, h3, h4⟩ := ixOf_ok e
      refine ⟨k + 1, z1, by omega, h2, h3, fun m z' hm hz => ?_⟩
      cases m with
      | zero => cases hz; simpa using h
      | succ m => exact h4 m z' (by omega) hz
def mIndex : OpM := fun d ds S => match ds with
  | [y] => match toPy S d, toPy S y with
    | some (.list ps), some p => if SeqAt.shaped (.list ps) && SeqAt.shaped p then (ixOf p ps 0).bind fun j => some (.int (j : Nat), S) else none
    | _, _ => none
  | _ => none
theorem Dp.refL {K : PySem.W.Frag} {H : Hp} {v : V} {ds : List PyData} (h : Dp K H v (.list ds)) : ∃ a, v = .ref a := by
  cases h
  exact ⟨_, rfl⟩
theorem mt_mIndex {k : Nat} (hr : Rm k X.A) : MtR X "list.index" (rM X.K X.mg mIndex) := by
  rintro pins s σ H x xs v us Q I rx rxs ⟨μ, S, d, ds, r, rd, rds, q⟩
  unfold mIndex at q
  split at q
  · rename_i y
    split at q
    · rename_i ps p e1 e2
      split at q
      · rename_i hc
        rw [Bool.and_eq_true] at hc
        obtain ⟨w, _, rfl, rw1, rfl⟩ := rds
        cases hj : ixOf p ps 0 with
        | none => rw [hj] at q; exact q.no.elim
        | some j =>
          rw [hj] at q
          obtain ⟨kk, z, h1, h2, h3, h4⟩ := ixOf_ok hj
          have h1 : j = kk := by omega
          subst h1
          have g1 := toPy_ok r rd e1
          obtain ⟨a, rfl⟩ := Dp.refL g1
          exact mt_indexD (Room.u65 hr.r) pins s σ H _ _ v us Q I rx rxs ⟨a, w, p, ps, j, z, rfl, rfl, g1, toPy_ok r rw1 e2, hc.1, hc.2, h2, h3, h4, q.here r rfl⟩
      · exact q.no.elim
    · exact q.no.elim
  · exact q.no.elim
/-- o.bit_length() -/
def fBits (o : FE) : FE := fun ρ S => (o ρ S).bind fun d S1 => match d with
  | .int i => .ok (.int (Builtin.Int.intBits i)) S1
  | _ => .fail
end
end MP

namespace MP
open PySem L2 PySem.Spec PyProof.Rows

/-! ### bits, keywords, fields, one test -/
section
variable {X : Cx} {W : WX} {o e c : Expr} {es : List Expr} {fo f : FE} {g gk : FA} {apos pos p kpos : Pos} {x : Str} {kws : List Keyword} {nm : Option Str}
theorem se_bits (ho : SE X W o fo) (hbase : attributeBase o "bit_length" X.env (eval o X.env) = eval o X.env) (hline : (apos.endLine == pos.line) = true) : SE X W (.Call (.Attribute o "bit_length" apos) [] [] pos) (fBits fo) :=
  PE.imp (pe_bits ho hbase hline) fun σ H Q ⟨μ, S, ρ, r, en, q⟩ => (q.toE r en).mono fun x H1 ⟨d, μ1, S1, r1, e1, rx, _, p1⟩ => by
    cases d with
    | int i => cases rx; exact ⟨i, rfl, p1.end_ r1 _ rfl⟩
    | _ => exact p1.elim
theorem pts_one' {Y : Cx} {c : Expr} {f : FE} (h : ST Y W0 c f) : PTs Y [c] (tT Y.K Y.mg W0 f) := pts_one h
abbrev SK (X : Cx) (W : WX) (kws : List Keyword) (f : FA) : Prop := PK X kws (tA X.K X.mg W f)
theorem sk_nil : SK X W [] aNil := ⟨fun pos pins s σ H Q I ⟨μ, S, ρ, r, e, h⟩ => pk_nil.run pos pins s σ H Q I (h.end_ r [] rfl)⟩
theorem sk_cons (h1 : SE X W e f) (h2 : SK X W kws g) : SK X W (⟨nm, e, kpos⟩ :: kws) (aCons f g) := ⟨fun pos pins s σ H Q I h => by
  refine (pk_cons h1 h2).run pos pins s σ H Q I ?_
  obtain ⟨μ, S, ρ, r, e, p⟩ := h
  refine (p.toE r e).mono fun x H1 h1 => ?_
  obtain ⟨d1, μ1, S1, r1, e1, rx, _, p1⟩ := h1
  refine (p1.toA r1 e1).mono fun xs H2 h2 => ?_
  obtain ⟨ds, μ2, S2, r2, e2, rxs, f2, p2⟩ := h2
  exact p2.end_ r2 _ ⟨_, _, rfl, f2.val r1 rx, rxs⟩⟩
/-- values by places -/
def permL {α : Type} (pm : List Nat) (xs : List α) : List α := pm.filterMap fun i => xs[i]?
theorem permL_rep {K : PySem.W.Frag} {μ : Nat → Addr} {H : Hp} {N : Nat} {ds : List D} {vs : List V} (h : RepVs K μ H N ds vs) : ∀ pm : List Nat, RepVs K μ H N (permL pm ds) (permL pm vs)
  | [] => rfl
  | i :: pm => by
    unfold permL
    cases hi : ds[i]? with
    | none =>
      have hv : vs[i]? = none := by
        rw [List.getElem?_eq_none_iff] at hi ⊢
        rw [← h.length]
        exact hi
      rw [List.filterMap_cons_none hi, List.filterMap_cons_none hv]
      exact permL_rep h pm
    | some d =>
      obtain ⟨v, hv, rv⟩ := h.get hi
      rw [List.filterMap_cons_some hi, List.filterMap_cons_some hv]
      exact ⟨v, _, rfl, rv, permL_rep h pm⟩
theorem permL_vals {vs : List V} {us : List Value} (h : Vals vs us) : ∀ pm : List Nat, Vals (permL pm vs) (permL pm us)
  | [] => .nil
  | i :: pm => by
    unfold permL
    cases hi : vs[i]? with
    | none =>
      have hv : us[i]? = none := by
        rw [List.getElem?_eq_none_iff] at hi ⊢
        rw [← h.length]
        exact hi
      rw [List.filterMap_cons_none hi, List.filterMap_cons_none hv]
      exact permL_vals h pm
    | some d =>
      obtain ⟨v, hv, rv⟩ := h.get hi
      rw [List.filterMap_cons_some hi, List.filterMap_cons_some hv]
      exact .cons rv (permL_vals h pm)

/-! ### defs by name -/
/-- a def that may be called by its name -/
structure Cal (P : Program) (w : World) (K : PySem.W.Frag) (mg : Str → Option Value) (base : Heap) (k : Nat) (x : Str) (cf : CF) : Prop where
  ex : ∃ (f : Addr) (fd : FuncData) (ps : List Str), FnG P w K mg base k f fd ps (spD K mg cf) ∧ mg x = some (.ref f) ∧ PySem.W.keepIn K (.ref f) = true ∧ Binds K fd ps []
/-- .. with n written arguments, then keywords ks -/
structure CalK (P : Program) (w : World) (K : PySem.W.Frag) (mg : Str → Option Value) (base : Heap) (k : Nat) (x : Str) (cf : CF) (n : Nat) (ks : List Str) (pm : List Nat) : Prop where
  ex : ∃ (f : Addr) (fd : FuncData) (ps : List Str), FnG P w K mg base k f fd ps (spD K mg cf) ∧ mg x = some (.ref f) ∧ PySem.W.keepIn K (.ref f) = true ∧
    ∀ us ws : List Value, us.length = n → ws.length = ks.length → bindArgs fd ⟨us, ks.zip ws⟩ = pure (ps.zip (permL pm (us ++ ws)))
variable {k : Nat} {cf : CF} {n : Nat} {ks : List Str} {pm : List Nat}
theorem sc_call (C : Cal X.prog X.w X.K X.mg X.base k x cf) (hr : Rm k X.A) (hg : Gl X x) (tk : Takes X W) (ha : SA X W (e :: es) g) (hdb : (x == ("__debug__" : Str)) = false)
    (he : starEach (e :: es) X.env = (false, eval e X.env) :: starEach es X.env) (hpl : (backTo pos (starEach es X.env)).any (·.1) = false) : SE X W (.Call (.Name x p) (e :: es) [] pos) (fCall cf g) := by
  obtain ⟨f, fd, ps, F, hm, hk, hb⟩ := C.ex
  exact se_call F hr hg hm hk hb tk ha hdb he hpl
theorem sc_call0 (C : Cal X.prog X.w X.K X.mg X.base k x cf) (hr : Rm k X.A) (hg : Gl X x) (tk : Takes X W) (hdb : (x == ("__debug__" : Str)) = false) : SE X W (.Call (.Name x p) [] [] pos) (fCall cf aNil) := by
  obtain ⟨f, fd, ps, F, hm, hk, hb⟩ := C.ex
  exact se_call0 F hr hg hm hk hb tk hdb
/-- f(.., k = v, ..) -/
def fKw (cf : CF) (n m : Nat) (pm : List Nat) (a kw : FA) : FE := fun ρ S => (a ρ S).bind fun ds S1 => (kw ρ S1).bind fun zs S2 => if Nat.beq ds.length n && Nat.beq zs.length m then cf (permL pm (ds ++ zs)) S2 else .fail
theorem kw_run {σ : L2.St} {H : Hp} {s : Shared} {Q : VK} {pins : List (Addr × Obj)} {f : Addr} {fd : FuncData} {ps : List Str} {us ws : List Value} {vs zs : List V} {μ : Nat → Addr} {S : Store} {ds es : List D}
    (F : FnG X.prog X.w X.K X.mg X.base k f fd ps (spD X.K X.mg cf)) (hr : Rm k X.A) (hb : ∀ us ws : List Value, us.length = n → ws.length = ks.length → bindArgs fd ⟨us, ks.zip ws⟩ = pure (ps.zip (permL pm (us ++ ws))))
    (tk : Takes X W) (I : Inv X pins σ H s) (r : Vals vs us) (rz : Vals zs ws) (rp : Rep X.K X.mg μ S H) (rd : RepVs X.K μ H S.length ds vs) (re : RepVs X.K μ H S.length es zs)
    (h : Pst X.K X.mg W σ (if Nat.beq ds.length n && Nat.beq es.length ks.length then cf (permL pm (ds ++ es)) S else .fail) μ S H fun d μ' S' H' => ∀ v, RepV X.K μ' H' S'.length d v → Q v H') :
    wpAny (model X.prog X.w) X.A (call (.ref f) us (ks.zip ws)) (EP X pins σ Q) X.xe s := by
  split at h
  · rename_i hl
    rw [Bool.and_eq_true] at hl
    have l1 : us.length = n := by rw [← r.length, ← rd.length]; exact Nat.eq_of_beq_eq_true hl.1
    have l2 : ws.length = ks.length := by rw [← rz.length, ← re.length]; exact Nat.eq_of_beq_eq_true hl.2
    exact wpAny_call (run_g F hr (passesAt tk σ) I (.of_eq (hb us ws l1 l2)) (permL_vals (r.append rz) pm) ⟨μ, S, _, rp, permL_rep (rd.append re) pm, h.callee⟩)
  · exact h.elim
theorem sc_kw (C : CalK X.prog X.w X.K X.mg X.base k x cf n ks pm) (hr : Rm k X.A) (hg : Gl X x) (tk : Takes X W) (ha : SA X W (e :: es) g) (hkw : SK X W kws gk) (hdb : (x == ("__debug__" : Str)) = false)
    (hall : (backToKw pos (keywordEach kws X.env)).all (·.1.isSome) = true) (hks : (backToKw pos (keywordEach kws X.env)).filterMap (·.1) = ks)
    (he : starEach (e :: es) X.env = (false, eval e X.env) :: starEach es X.env) (hpl : ((backTo pos (starEach (e :: es) X.env)).any (·.1) || (backToKw pos (keywordEach kws X.env)).any (·.1.isNone)) = false) :
    SE X W (.Call (.Name x p) (e :: es) kws pos) (fKw cf n ks.length pm g gk) := by
  obtain ⟨f, fd, ps, F, hm, hk, hb⟩ := C.ex
  refine ⟨fun pins s σ H Q I h => ?_⟩
  obtain ⟨μ, S, ρ, r, en, q⟩ := h
  refine wpAny_Call_Name_kw (ld_glob I hg hm ?_ hdb)
  refine PySem.W.callWith_KW (h₀ := X.base) I.ok.mod.kin hk hall (thn (ha.run pos pins s σ H _ I (q.toA r en)) fun us s1 ⟨vs, H1, I1, rv, ds, μ1, S1, r1, e1, rd, f1, q1⟩ => ?_) hpl he
  refine thn (hkw.run pos pins s1 σ H1 _ I1 (q1.toA r1 e1)) fun ws s2 ⟨zs, H2, I2, rz, dz, μ2, S2, r2, e2, rdz, f2, q2⟩ => ⟨I2.kIn, ?_⟩
  rw [hks]
  exact kw_run F hr hb tk I2 rv rz r2 (f2.vals r1 rd) rdz q2
theorem sc_kw0 (C : CalK X.prog X.w X.K X.mg X.base k x cf 0 ks pm) (hr : Rm k X.A) (hg : Gl X x) (tk : Takes X W) (hkw : SK X W kws gk) (hdb : (x == ("__debug__" : Str)) = false)
    (hall : (backToKw pos (keywordEach kws X.env)).all (·.1.isSome) = true) (hks : (backToKw pos (keywordEach kws X.env)).filterMap (·.1) = ks)
    (hpl : ((backTo pos (starEach [] X.env)).any (·.1) || (backToKw pos (keywordEach kws X.env)).any (·.1.isNone)) = false) :
    SE X W (.Call (.Name x p) [] kws pos) (fKw cf 0 ks.length pm aNil gk) := by
  obtain ⟨f, fd, ps, F, hm, hk, hb⟩ := C.ex
  refine ⟨fun pins s σ H Q I h => ?_⟩
  obtain ⟨μ, S, ρ, r, en, q⟩ := h
  refine wpAny_Call_Name_kw (ld_glob I hg hm ?_ hdb)
  refine PySem.W.callWith_KW0 (h₀ := X.base) I.ok.mod.kin hk hall (thn (hkw.run pos pins s σ H _ I (Pst.toA (f := gk) r en q)) fun ws s2 ⟨zs, H2, I2, rz, dz, μ2, S2, r2, e2, rdz, f2, q2⟩ => ⟨I2.kIn, ?_⟩) hpl
  rw [hks]
  exact kw_run (us := []) (vs := []) (ds := []) F hr hb tk I2 .nil rz r2 rfl rdz q2
/-- o.f = value -/
def sFld' (cs : List Str) (fl : Str) (v o : FE) : FS := fun ρ S => withE (v ρ S) ρ fun d S1 => withE (o ρ S1) ρ fun x S2 => match x with
  | .ref n => match S2[n]? with
    | some (.ins c fs) => if cs.contains c && Nat.blt fs.length 1000 then .ok (.nx ρ) (S2.set n (.ins c (putD fl d fs))) else .fail
    | _ => .fail
  | _ => .fail
theorem RepF.write {K : PySem.W.Frag} {mg : Str → Option Value} {μ : Nat → Addr} {H : Hp} {S : Store} (r : Rep K mg μ S H) {n : Nat} {u : HO} (hn : n < S.length) : ∀ {xs : List (Str × D)} {vs : List (Str × V)}, RepF K μ H S.length xs vs → RepF K μ (upd H (μ n) u) S.length xs vs
  | [], _, h => h
  | (f, x) :: xs, _, ⟨v, q, e, h1, h2⟩ => by
    have h3 : RepVs K μ (upd H (μ n) u) S.length [x] [v] := RepVs.write r hn (RepVs.one h1)
    obtain ⟨v', q', e', h4, _⟩ := h3
    cases e'
    exact ⟨v, q, e, h4, RepF.write r hn h2⟩
theorem ss_fld {cs : List Str} {fl : Str} {pos' : Pos} {fv : FE} (ho : SE X W o fo) (hv : SE X W e fv) (hF : FldOk X cs fl) (hs : swapsWith e (some (.Attribute o fl pos')) pos.line X.env = pure false) : SS X W (.Assign [.Attribute o fl pos'] e pos) (sFld' cs fl fv fo) :=
  PS.imp (ps_fld ho hv hs) fun D0 σ H h => by
    obtain ⟨μ, S, ρ, r, en, q⟩ := h
    refine (q.stE r en).mono fun y H1 ⟨d, μ1, S1, r1, e1, ry, f1, q1⟩ => ?_
    refine (q1.stE r1 e1).mono fun x H2 ⟨d2, μ2, S2, r2, e2, rx, f2, q2⟩ => ?_
    cases d2 with
    | ref n =>
      simp only at q2
      split at q2
      · rename_i c fs hn
        split at q2
        · rename_i hc
          rw [Bool.and_eq_true] at hc
          obtain ⟨C, dx, vs, ho', hmC, rf⟩ := r2.obj n _ hn
          obtain ⟨cls, na⟩ := hF c (by simpa using hc.1) C hmC
          obtain ⟨hlt, rfl⟩ := rx
          have hl : vs.length < 1000 := by rw [← rf.length]; simpa [Nat.blt_eq] using hc.2
          refine ⟨_, C, dx, vs, rfl, ho', cls, na, hl, ?_⟩
          have f3 : After X.K X.mg μ2 S2 H2 μ2 (S2.set n (.ins c (putD fl d fs))) (upd H2 (μ2 n) (.ins C dx (putF fl y vs))) :=
            After.write r2 hlt ⟨C, dx, _, upd_same, hmC, RepF.write r2 hlt (rf.put (f2.val r1 ry))⟩
          exact q2 μ2 _ f3 σ (f3.env r2 e2)
        · exact q2.elim
      · exact q2.elim
    | _ => exact q2.elim

/-! ### a def's body -/
def endR : R Fl → R D
  | .ok (.nx _) S => .ok .non S
  | .ok (.rt d) S => .ok d S
  | .ok (.xc c d _) S => .exc c d S
  | _ => .fail
def cfOf (n m : Nat) (b : FS) : CF := fun ds S => if Nat.beq ds.length n then R.gc S.length (endR (b (ds.map some ++ List.replicate (m - n) none) S)) else .fail
theorem ar_of {n m : Nat} {b : FS} : Ar n (cfOf n m b) := fun ds S h => by
  unfold cfOf
  split
  · rename_i e
    exact absurd (Nat.eq_of_beq_eq_true e) h
  · rfl
end
theorem start_env {K : PySem.W.Frag} {μ : Nat → Addr} {H : Hp} {M : Nat} {N : List Str} {ds : List D} {vs : List V} {n : Nat} (h : RepVs K μ H M ds vs) (hn : vs.length = n) : REnv K μ H M (ds.map some ++ List.replicate (N.length - n) none) (start N vs) := by
  subst hn
  refine ⟨by simp [L2.start, h.length], fun i d e => ?_⟩
  unfold L2.start
  by_cases hi : i < ds.length
  · rw [List.getElem?_append_left (by simpa using hi), List.getElem?_map] at e
    cases hd : ds[i]? with
    | none => rw [hd] at e; cases e
    | some x =>
      rw [hd] at e
      cases e
      obtain ⟨v, hv, rv⟩ := h.get hd
      refine ⟨v, ?_, rv⟩
      rw [List.getElem?_append_left (by rw [List.length_map, ← h.length]; exact hi), List.getElem?_map, hv]
      rfl
  · rw [List.getElem?_append_right (by simpa using hi), List.getElem?_replicate] at e
    split at e <;> cases e
theorem body_g {X : Cx} {E : XK} {N : List Str} {n : Nat} {b : FS} {vs : List V} {H : Hp} {Q : VK} (h : spD X.K X.mg (cfOf n N.length b) vs H Q E) :
    tS X.K X.mg (fun c d _ H' => E c d H') b { nx := fun _ H' => Q .non H', rt := Q } (start N vs) H := by
  obtain ⟨μ, S, ds, r, rv, p⟩ := h
  unfold cfOf at p
  split at p
  · rename_i hl
    have hn : vs.length = n := by rw [← rv.length]; exact Nat.eq_of_beq_eq_true hl
    refine ⟨μ, S, _, r, start_env rv hn, ?_⟩
    cases hb : b (ds.map some ++ List.replicate (N.length - n) none) S with
    | fail => rw [hb] at p; exact p.elim
    | exc c d S' => rw [hb] at p; exact p.elim
    | ok fl S' =>
      rw [hb] at p
      intro μ' H' f
      cases fl with
      | bk ρ => exact p.elim
      | ct ρ => exact p.elim
      | nx ρ =>
        intro σ' _
        have f2 := f.drop (d := .non) (v := .non) rfl
        exact p μ' H' f2.1 .non f2.2
      | rt d =>
        intro v rv'
        have f2 := f.drop rv'
        exact p μ' H' f2.1 v f2.2
      | xc c d ρ =>
        intro σ' C dd w _ h1 h2 h3
        have f2 := f.drop h3
        exact p μ' H' C dd w f2.1 h1 h2 f2.2
  · exact p.elim
/-- a def by its body's meaning -/
theorem def_g {P : Program} {w : World} {K : PySem.W.Frag} {mg : Str → Option Value} {base : Heap} {k n : Nat} {f : Addr} {x qual : Str} {st : Stmt} {fd : FuncData} {N ps : List Str} {b : FS} (F : Fun K x qual st f fd) (S : FnScope N ps (defScope st)) (hn : ps.length = n)
    (hb : ∀ (cdv : Value) (A : Around) (outer : List Env) (s : Shared) (H : Hp) (E : XK) (X : Cx), X = cxOf (L2.CX P w) P w K mg base N qual (defScope st) f cdv A outer s H E → Rm k X.A → Takes X (fun c d _ H' => E c d H') → PassesOwn (model X.prog X.w) X.A X.env X.xe → SSs X (fun c d _ H' => E c d H') (defBody st) b) :
    FnG P w K mg base (k + 1) f fd ps (spD K mg (cfOf n N.length b)) := by
  refine fn_g F S (fun vs H Q E h => (spD_len ar_of vs H Q E h).trans hn.symm) fun cdv A outer s H vs Q E hr h => ?_
  refine ⟨_, hb cdv A outer s H E _ rfl hr (takes_of rfl rfl rfl rfl) (passes_of rfl), ?_⟩
  exact body_g (X := cxOf (L2.CX P w) P w K mg base N qual (defScope st) f cdv A outer s H E) h
theorem ns_none_of {K : PySem.W.Frag} {h : Heap} {a : Addr} {mg : Str → Option Value} {n : Str} (X : K.In h) (G : h.Ns a mg) (e : PySem.W.nsIn K a n = some none) : mg n = none := by
  obtain ⟨o, es, ep, ho, hd, _, hf⟩ := G
  unfold PySem.W.nsIn at e
  split at e
  · rename_i c d es' n' sl q
    have := X _ _ q
    rw [ho] at this
    cases this
    cases hd
    split at e
    · cases e
    · rename_i q2
      rw [← hf]
      unfold nsFind findBy
      rw [← Array.find?_toList, q2]
      rfl
  · cases e
theorem noDig_of {K : PySem.W.Frag} (e : PySem.W.nsIn K cStatics "sys.int_max_str_digits" = some none) : NoDig K := fun h X ⟨mc, hns, _⟩ => ⟨mc, hns, ns_none_of X hns e⟩
/-- the keywords' order, from the def's own form -/
theorem kw_of {K : PySem.W.Frag} {x qual : Str} {st : Stmt} {f : Addr} {fd : FuncData} {ps ks : List Str} {n : Nat} {pm : List Nat} (F : Fun K x qual st f fd)
    (h : ∀ (kV doc pmv : Value) (an : Option Addr) (cdv ct : Value) (us ws : List Value), us.length = n → ws.length = ks.length → bindArgs (PySem.W.fnOf x qual (defArgs st) (defBody st) (defScope st) .none kV doc pmv an cdv ct) ⟨us, ks.zip ws⟩ = pure (ps.zip (permL pm (us ++ ws)))) :
    ∀ us ws : List Value, us.length = n → ws.length = ks.length → bindArgs fd ⟨us, ks.zip ws⟩ = pure (ps.zip (permL pm (us ++ ws))) := by
  obtain ⟨oc, od, kV, doc, pmv, an, cdv, ct, osl, rfl, lk, hcd⟩ := F.ex
  exact h kV doc pmv an cdv ct
theorem Cal.mono {P : Program} {w : World} {K : PySem.W.Frag} {mg : Str → Option Value} {base : Heap} {j k : Nat} {x : Str} {cf : CF} (C : Cal P w K mg base j x cf) (h : j ≤ k) : Cal P w K mg base k x cf :=
  let ⟨f, fd, ps, F, r⟩ := C.ex; ⟨f, fd, ps, F.mono h, r⟩
theorem CalK.mono {P : Program} {w : World} {K : PySem.W.Frag} {mg : Str → Option Value} {base : Heap} {j k : Nat} {x : Str} {cf : CF} {n : Nat} {ks : List Str} {pm : List Nat} (C : CalK P w K mg base j x cf n ks pm) (h : j ≤ k) : CalK P w K mg base k x cf n ks pm :=
  let ⟨f, fd, ps, F, r⟩ := C.ex; ⟨f, fd, ps, F.mono h, r⟩
/-- what the top has written of a def -/
structure DefAt (K : PySem.W.Frag) (mg : Str → Option Value) (x nm : Str) (st : Stmt) (ps : List Str) (f : Addr) (fd : FuncData) : Prop where
  gl : mg x = some (.ref f)
  fn : Fun K nm nm st f fd
  b : Binds K fd ps []
section
variable {P : Program} {w : World} {K : PySem.W.Frag} {mg : Str → Option Value} {base : Heap} {k : Nat} {x nm : Str} {st : Stmt} {ps : List Str} {cf : CF}
theorem cal_of (d : ∃ f fd, DefAt K mg x nm st ps f fd) (F : ∀ f fd, Fun K nm nm st f fd → FnG P w K mg base k f fd ps (spD K mg cf)) : Cal P w K mg base k x cf :=
  let ⟨f, fd, d⟩ := d; ⟨f, fd, ps, F f fd d.fn, d.gl, d.fn.kp, d.b⟩
theorem calK_of {n : Nat} {ks : List Str} {pm : List Nat} (d : ∃ f fd, DefAt K mg x nm st ps f fd) (F : ∀ f fd, Fun K nm nm st f fd → FnG P w K mg base k f fd ps (spD K mg cf))
    (h : ∀ (kV doc pmv : Value) (an : Option Addr) (cdv ct : Value) (us ws : List Value), us.length = n → ws.length = ks.length → bindArgs (PySem.W.fnOf nm nm (defArgs st) (defBody st) (defScope st) .none kV doc pmv an cdv ct) ⟨us, ks.zip ws⟩ = pure (ps.zip (permL pm (us ++ ws)))) : CalK P w K mg base k x cf n ks pm :=
  let ⟨f, fd, d⟩ := d; ⟨f, fd, ps, F f fd d.fn, d.gl, d.fn.kp, kw_of d.fn h⟩
end
end MP

namespace MP
open PySem L2 PySem.Spec PyProof.Rows

/-! ### the rules in short, their plain conditions by rfl -/
section
variable {X : Cx} {W : WX} {x y z : Str} {pos p p1 p2 pos' apos : Pos} {a b c e o : Expr} {es ts : List Expr} {fa fb fc fo fe : FE} {g gk : FA} {k n i j l : Nat} {cf : CF} {st : Stmt} {sa sb rest : List Stmt} {s1 s2 : FS} {f : Op2} {kws : List Keyword} {id T : String}
theorem xV (i : Nat) (hN : X.N[i]? = some x := by rfl) (hv : Vis X.env.scope x := by first | exact Or.inl rfl | exact Or.inr (Or.inl rfl) | exact Or.inr (Or.inr rfl)) (hd : (x == ("__debug__" : Str)) = false := by decide +kernel) (hcd : (x == ("__classdict__" : Str)) = false := by decide +kernel) :
    SE X W (.Name x pos) (fVar i) := se_var hN hv hd hcd
theorem xGI {i : Int} (h : ∃ t, X.mg x = some (.int i t)) (hg : Gl X x := by rfl) (hd : (x == ("__debug__" : Str)) = false := by decide +kernel) : SE X W (.Name x pos) (fC (.int i)) := by
  obtain ⟨t, h⟩ := h
  exact se_c (v := .int i) (pe_glob hg h ⟨t, rfl⟩ hd) fun _ _ _ => rfl
theorem xGS {i : Str} (h : ∃ t, X.mg x = some (.str i t)) (hg : Gl X x := by rfl) (hd : (x == ("__debug__" : Str)) = false := by decide +kernel) : SE X W (.Name x pos) (fC (.str i)) := by
  obtain ⟨t, h⟩ := h
  exact se_c (v := .str i) (pe_glob hg h ⟨t, rfl⟩ hd) fun _ _ _ => rfl
theorem xCS {i j : Str} {kk} (h : i = j) : SE X W (.Constant (.str i) kk pos) (fC (.str j)) := by
  subst h
  exact se_str
theorem xBi {op : Operator} (ho : OpR X (binaryOp op) (r2 X.K X.mg f)) (ha : SE X W a fa) (hb : SE X W b fb) : SE X W (.BinOp a op b pos) (f2 f fa fb) := se_bin ho ha hb
theorem xCm {op : CmpOp} (ho : OpR X (compareOp op) (r2 X.K X.mg f)) (ha : SE X W a fa) (hb : SE X W b fb) (hm : behindInMarks op b = false := by rfl) : SE X W (.Compare a [op] [b] pos) (f2 f fa fb) := se_cmp ho ha hb hm
theorem xCh {op op' : CmpOp} {f g : Op2} (ho : OpR X (compareOp op) (r2 X.K X.mg f)) (ho' : OpR X (compareOp op') (r2 X.K X.mg g)) (ha : SE X W a fa) (hb : SE X W b fb) (hc : SE X W c fc) (hm : lastMarks [op, op'] [b, c] = false := by rfl) : SE X W (.Compare a [op, op'] [b, c] pos) (fChain f g fa fb fc) := se_chain ho ho' ha hb hc hm
theorem xTCm {op : CmpOp} (ho : OpR X (compareOp op) (r2 X.K X.mg f)) (ha : SE X W a fa) (hb : SE X W b fb) (hm : behindInMarks op b = false := by rfl) : ST X W (.Compare a [op] [b] pos) (fB (f2 f fa fb)) := st_cmp ho ha hb hm
theorem xTCh {op op' : CmpOp} {f g : Op2} (ho : OpR X (compareOp op) (r2 X.K X.mg f)) (ho' : OpR X (compareOp op') (r2 X.K X.mg g)) (ha : SE X W a fa) (hb : SE X W b fb) (hc : SE X W c fc) (hm : lastMarks [op, op'] [b, c] = false := by rfl) : ST X W (.Compare a [op, op'] [b, c] pos) (fB (fChain f g fa fb fc)) := st_chain ho ho' ha hb hc hm
theorem xTv (h : SE X W a fa) (he : ∀ whole, isTrue a X.env whole = (do let v ← whole; standAt a.pos; holding [v] (truthy v)) := by exact fun _ => rfl) : ST X W a (fB fa) := st_val h he
theorem xTW (h : SW X W e fe) : ST X W e fe := PW.pt h
theorem xIx (ha : SE X W a fa) (hb : SE X W b fb) (hs : PlainIx b := by exact fun _ _ => rfl) : SE X W (.Subscript a b pos) (f2 oIx fa fb) := se_ix ix_oIx ha hb hs
theorem xA1 (h1 : SE X W e fe) (h2 : SA X W es g) (hs : starEach (e :: es) X.env = (false, eval e X.env) :: starEach es X.env := by rfl) : SA X W (e :: es) (aCons fe g) := sa_cons h1 h2 hs
theorem xCl (C : Cal X.prog X.w X.K X.mg X.base k x cf) (hr : Rm k X.A) (tk : Takes X W) (ha : SA X W (e :: es) g) (hg : Gl X x := by rfl) (hdb : (x == ("__debug__" : Str)) = false := by decide +kernel)
    (he : starEach (e :: es) X.env = (false, eval e X.env) :: starEach es X.env := by rfl) (hpl : (backTo pos (starEach es X.env)).any (·.1) = false := by rfl) : SE X W (.Call (.Name x p) (e :: es) [] pos) (fCall cf g) := sc_call C hr hg tk ha hdb he hpl
theorem xCl0 (C : Cal X.prog X.w X.K X.mg X.base k x cf) (hr : Rm k X.A) (tk : Takes X W) (hg : Gl X x := by rfl) (hdb : (x == ("__debug__" : Str)) = false := by decide +kernel) : SE X W (.Call (.Name x p) [] [] pos) (fCall cf aNil) := sc_call0 C hr hg tk hdb
theorem xKw0 {ks : List Str} {pm : List Nat} (C : CalK X.prog X.w X.K X.mg X.base k x cf 0 ks pm) (hr : Rm k X.A) (tk : Takes X W) (hkw : SK X W kws gk) (hg : Gl X x := by rfl) (hdb : (x == ("__debug__" : Str)) = false := by decide +kernel)
    (hall : (backToKw pos (keywordEach kws X.env)).all (·.1.isSome) = true := by rfl) (hks : (backToKw pos (keywordEach kws X.env)).filterMap (·.1) = ks := by rfl)
    (hpl : ((backTo pos (starEach [] X.env)).any (·.1) || (backToKw pos (keywordEach kws X.env)).any (·.1.isNone)) = false := by rfl) : SE X W (.Call (.Name x p) [] kws pos) (fKw cf 0 ks.length pm aNil gk) := sc_kw0 C hr hg tk hkw hdb hall hks hpl
theorem xKw {ks : List Str} {pm : List Nat} (C : CalK X.prog X.w X.K X.mg X.base k x cf n ks pm) (hr : Rm k X.A) (tk : Takes X W) (ha : SA X W (e :: es) g) (hkw : SK X W kws gk) (hg : Gl X x := by rfl) (hdb : (x == ("__debug__" : Str)) = false := by decide +kernel)
    (hall : (backToKw pos (keywordEach kws X.env)).all (·.1.isSome) = true := by rfl) (hks : (backToKw pos (keywordEach kws X.env)).filterMap (·.1) = ks := by rfl) (he : starEach (e :: es) X.env = (false, eval e X.env) :: starEach es X.env := by rfl)
    (hpl : ((backTo pos (starEach (e :: es) X.env)).any (·.1) || (backToKw pos (keywordEach kws X.env)).any (·.1.isNone)) = false := by rfl) : SE X W (.Call (.Name x p) (e :: es) kws pos) (fKw cf n ks.length pm g gk) := sc_kw C hr hg tk ha hkw hdb hall hks he hpl
theorem xBf {f : OpN} (hc : CallR X (.builtin id) (rN X.K X.mg f)) (hv : bootBuiltins x = some (.builtin id)) (hm : X.mg x = none) (ha : SA X W (e :: es) g) (hg : Gl X x := by rfl) (hn : x ≠ "__name__" := by decide +kernel) (hdb : (x == ("__debug__" : Str)) = false := by decide +kernel)
    (he : starEach (e :: es) X.env = (false, eval e X.env) :: starEach es X.env := by rfl) (hpl : (backTo pos (starEach es X.env)).any (·.1) = false := by rfl) : SE X W (.Call (.Name x p) (e :: es) [] pos) (fCallB f g) := se_callB hc hg hm hv ha hn hdb he hpl
theorem xBt {f : OpN} (hc : CallR X (.type T) (rN X.K X.mg f)) (hv : bootBuiltins x = some (.type T)) (hm : X.mg x = none) (ha : SA X W (e :: es) g) (hg : Gl X x := by rfl) (hn : x ≠ "__name__" := by decide +kernel) (hdb : (x == ("__debug__" : Str)) = false := by decide +kernel)
    (he : starEach (e :: es) X.env = (false, eval e X.env) :: starEach es X.env := by rfl) (hpl : (backTo pos (starEach es X.env)).any (·.1) = false := by rfl) : SE X W (.Call (.Name x p) (e :: es) [] pos) (fCallB f g) := se_callTy hc hg hm hv ha hn hdb he hpl
theorem boot_isi : bootBuiltins ("isinstance" : Str) = some (.builtin "isinstance") := by decide +kernel
theorem xIsi (t : Ty) (hm : X.mg "isinstance" = none) (hmT : X.mg y = none) (ha : SE X W a fa) (hT : bootBuiltins y = some (.type t.nm) := by decide +kernel) (hg : Gl X "isinstance" := by rfl) (hgT : Gl X y := by rfl) (hn : y ≠ "__name__" := by decide +kernel) (hd : (y == ("__debug__" : Str)) = false := by decide +kernel)
    (he : starEach [a, .Name y p1] X.env = (false, eval a X.env) :: starEach [.Name y p1] X.env := by rfl) : SE X W (.Call (.Name "isinstance" p) [a, .Name y p1] [] pos) (fIsi t fa) :=
  se_isi ha hg hm hgT hmT hT hn hd he rfl rfl (by decide +kernel) (by decide +kernel) boot_isi
theorem xMe {name : Str} {t : Ty} {f : OpM} (hm : MtR X id (rM X.K X.mg f)) (pa : PlainAttrs t.nm) (slot : Slot t.nm name id) (hty : typeOf (.builtin id) = pure (.type "method_descriptor")) (ho : SE X W o fo) (ha : SA X W (e :: es) g)
    (hbase : attributeBase o name X.env (eval o X.env) = eval o X.env := by rfl)
    (hfew : ((backTo pos (starEach (e :: es) X.env)).all (fun x => !x.1) && (backToKw pos (keywordEach [] X.env)).all (fun x => x.1.isSome)
      && decide ((e :: es).length + ([] : List Keyword).length + (if ([] : List Keyword).isEmpty then 0 else 1) < 30)) = true := by rfl)
    (hline : (apos.endLine == pos.line) = true := by rfl) (hs : starEach (e :: es) X.env = (false, eval e X.env) :: starEach es X.env := by rfl) (hplain : (backTo pos (starEach es X.env)).any (·.1) = false := by rfl) :
    SE X W (.Call (.Attribute o name apos) (e :: es) [] pos) (fBM t f fo g) := se_bm pa slot hty hm ho ha hbase hfew hline hs hplain
theorem xMe0 {name : Str} {t : Ty} {f : OpM} (hm : MtR X id (rM X.K X.mg f)) (pa : PlainAttrs t.nm) (slot : Slot t.nm name id) (hty : typeOf (.builtin id) = pure (.type "method_descriptor")) (ho : SE X W o fo)
    (hbase : attributeBase o name X.env (eval o X.env) = eval o X.env := by rfl) (hline : (apos.endLine == pos.line) = true := by rfl) :
    SE X W (.Call (.Attribute o name apos) [] [] pos) (fBM t f fo aNil) := se_bm0 pa slot hty hm ho hbase hline
theorem xBits (ho : SE X W o fo) (hbase : attributeBase o "bit_length" X.env (eval o X.env) = eval o X.env := by rfl) (hline : (apos.endLine == pos.line) = true := by rfl) : SE X W (.Call (.Attribute o "bit_length" apos) [] [] pos) (fBits fo) := se_bits ho hbase hline
theorem xSl {lo hi : Option Expr} {fl fh : FO} (ha : SE X W e fa) (hl : SO X W lo fl) (hh : SO X W hi fh) : SE X W (.Subscript e (.Slice lo hi none p2) pos) (fSl oSl fa fl fh) := se_sl sl_oSl ha hl hh
/-! statements -/
theorem xEx (h : SE X W e fe) (hs : swapsWith e none pos.line X.env = pure false := by rfl) : SS X W (.Expr e pos) (sExpr fe) := ss_expr h hs
theorem xSt (i : Nat) (hN : X.N.Nodup) (he : SE X W e fe) (hi : X.N[i]? = some x := by rfl) (hx : Loc X.env.scope x := by first | exact Or.inl rfl | exact Or.inr rfl) (hs : swapsWith e (some (.Name x pos')) pos.line X.env = pure false := by rfl) (hf : X.fn x = true ∨ X.env.scope.names.lookup x = some .local := by exact Or.inl rfl) :
    SS X W (.Assign [.Name x pos'] e pos) (sAsg fe (gNm i)) := ss_set hN hi hx he hs hf
theorem xAs {t : Expr} {gt : FT} (he : SE X W e fe) (hg : SG X t gt) (hs : swapsWithSole [t] e pos.line X.env = pure false := by rfl) (hw : swappedStores [t] e X.env = pure none := by rfl) (h1 : (assignEach [t] X.env).map (·.2) = [assign t X.env] := by rfl) :
    SS X W (.Assign [t] e pos) (sAsg fe gt) := ss_asg he hg hs hw h1
theorem xP2 {kt k2 pt2} {px py pt : Pos} {g : FA} (hc : X.calm = true) (hN : X.N.Nodup) (i j : Nat) (ha : SA X W [a, b] g) (hi : X.N[i]? = some x := by rfl) (hj : X.N[j]? = some y := by rfl) (hij : i ≠ j := by decide)
    (hx : X.env.scope.names.lookup x = some .local := by rfl) (hy : X.env.scope.names.lookup y = some .local := by rfl)
    (hw : swappedStores [.Tuple [.Name x px, .Name y py] kt pt] (.Tuple [a, b] k2 pt2) X.env = pure (some [x, y]) := by rfl) (hs : swapsWithSole [.Tuple [.Name x px, .Name y py] kt pt] (.Tuple [a, b] k2 pt2) pos.line X.env = pure false := by rfl) :
    SS X W (.Assign [.Tuple [.Name x px, .Name y py] kt pt] (.Tuple [a, b] k2 pt2) pos) (sPar [i, j] g) := ss_par hc hN hi hj hij hx hy ha hw hs
theorem xP3 {kt k2 pt2} {px py pz pt : Pos} {g : FA} (hc : X.calm = true) (hN : X.N.Nodup) (i j l : Nat) (ha : SA X W [a, b, c] g) (hi : X.N[i]? = some x := by rfl) (hj : X.N[j]? = some y := by rfl) (hl : X.N[l]? = some z := by rfl) (hij : i ≠ j := by decide) (hil : i ≠ l := by decide) (hjl : j ≠ l := by decide)
    (hx : X.env.scope.names.lookup x = some .local := by rfl) (hy : X.env.scope.names.lookup y = some .local := by rfl) (hz : X.env.scope.names.lookup z = some .local := by rfl)
    (hw : swappedStores [.Tuple [.Name x px, .Name y py, .Name z pz] kt pt] (.Tuple [a, b, c] k2 pt2) X.env = pure (some [x, y, z]) := by rfl) (hs : swapsWithSole [.Tuple [.Name x px, .Name y py, .Name z pz] kt pt] (.Tuple [a, b, c] k2 pt2) pos.line X.env = pure false := by rfl) :
    SS X W (.Assign [.Tuple [.Name x px, .Name y py, .Name z pz] kt pt] (.Tuple [a, b, c] k2 pt2) pos) (sPar [i, j, l] g) := ss_par3 hc hN hi hj hl hij hil hjl hx hy hz ha hw hs
theorem xAu {op : Operator} {o2 : Op2} (i : Nat) (hN : X.N.Nodup) (ho : OpR X (inplaceOp op) (r2 X.K X.mg o2)) (he : SE X W e fe) (hi : X.N[i]? = some x := by rfl) (hx : Loc X.env.scope x := by first | exact Or.inl rfl | exact Or.inr rfl) (hf : X.fn x = true ∨ X.env.scope.names.lookup x = some .local := by exact Or.inl rfl) :
    SS X W (.AugAssign (.Name x pos') op e pos) (sAug i o2 fe) := ss_aug hN hi hx he ho hf
theorem xFo {tg iter : Expr} {sb : List Stmt} {fi : FI} {gt : FT} {bs : FS} (hp : PassesOwn (model X.prog X.w) X.A X.env X.xe) (hc : X.calm = true) (hi : SI X W tg iter fi) (hg : SG X tg gt) (hb : SSs X W sb bs) (hs : ∀ x, foldedSetIterable iter X.env x = pure x := by exact fun _ => rfl) : SS X W (.For tg iter sb [] pos) (sFor fi gt bs) := ss_for hp hc hi hg hb hs
theorem xR1 (hm : X.mg "range" = none) (ha : SA X W [a] g) (hg : Gl X "range" := by rfl) (hs : starEach [a] X.env = [(false, eval a X.env)] := by rfl) {tg : Expr} : SI X W tg (.Call (.Name "range" p) [a] [] pos) (fRange1 g) := si_range1 hg hm ha hs
theorem xR2 (hm : X.mg "range" = none) (ha : SA X W [a, b] g) (hg : Gl X "range" := by rfl) (hs : starEach [a, b] X.env = [(false, eval a X.env), (false, eval b X.env)] := by rfl) (hs2 : starEach [b] X.env = [(false, eval b X.env)] := by rfl) {tg : Expr} : SI X W tg (.Call (.Name "range" p) [a, b] [] pos) (fRange2 g) := si_range2 hg hm ha hs hs2
theorem xR3 (hm : X.mg "range" = none) (ha : SA X W [a, b, c] g) (hg : Gl X "range" := by rfl) (hs : starEach [a, b, c] X.env = (false, eval a X.env) :: starEach [b, c] X.env := by rfl) (hpl : (backTo pos (starEach [b, c] X.env)).any (·.1) = false := by rfl) {tg : Expr} : SI X W tg (.Call (.Name "range" p) [a, b, c] [] pos) (fRange3 g) := si_range3 hg hm ha hs hpl
theorem xGN (i : Nat) (hN : X.N.Nodup) (hi : X.N[i]? = some x := by rfl) (hx : Loc X.env.scope x := by first | exact Or.inl rfl | exact Or.inr rfl) (hf : X.fn x = true ∨ X.env.scope.names.lookup x = some .local := by first | exact Or.inl rfl | exact Or.inr rfl) : SG X (.Name x pos) (gNm i) := sg_name hN hi hx hf
theorem xG1 {t : Expr} {gt : FT} {gs : FTs} (h1 : SG X t gt) (h2 : SGs X ts gs) (hs : (assignEach (t :: ts) X.env).map (·.2) = assign t X.env :: (assignEach ts X.env).map (·.2) := by rfl) : SGs X (t :: ts) (gsCons gt gs) := sgs_cons h1 h2 hs
theorem xGTu (n : Nat) {kk : Nat} {gs : FTs} (hc : X.calm = true) (h : SGs X es gs) (hn : (assignEach es X.env).length = n := by rfl) (hst : (assignEach es X.env).findIdx? (·.1) = none := by rfl) : SG X (.Tuple es kk pos) (gTp n gs) := sg_tup hc h hn hst
theorem xGx (ha : SE X W a fa) (hb : SE X W b fb)
    (hs : ∀ v, assign (.Subscript a b pos) X.env v = (do
      let ov ← holding [v] (eval a X.env)
      let iv ← holding [v, ov] (eval b X.env)
      standAt pos
      holding [v, ov, iv] (setItem ov iv v)
      release [v, ov, iv] []) := by exact fun _ => rfl) : SG X (.Subscript a b pos) (gSb oSet fa fb) := sg_sub ha hb set_oSet hs
section
variable {own : List Nat} {gt : FC} {gs : FCs} {t : Expr}
theorem xcN (i : Nat) (hN : X.N.Nodup) (ho : i ∈ own := by decide) (hi : X.N[i]? = some x := by rfl) (hx : Loc X.env.scope x := by first | exact Or.inl rfl | exact Or.inr rfl) (hf : X.fn x = true ∨ X.env.scope.names.lookup x = some .local := by first | exact Or.inr rfl | exact Or.inl rfl) : PG X (.Name x pos) (gC X.K X.mg own (cNm i)) := cg_name hN hi hx hf ho
theorem xc1 (h1 : PG X t (gC X.K X.mg own gt)) (h2 : PGs X ts (gCs X.K X.mg own gs)) (hs : (assignEach (t :: ts) X.env).map (·.2) = assign t X.env :: (assignEach ts X.env).map (·.2) := by rfl) : PGs X (t :: ts) (gCs X.K X.mg own (cCons gt gs)) := cgs_cons h1 h2 hs
theorem xcT (n : Nat) {kk : Nat} (hc : X.calm = true) (h : PGs X es (gCs X.K X.mg own gs)) (hn : (assignEach es X.env).length = n := by rfl) (hst : (assignEach es X.env).findIdx? (·.1) = none := by rfl) : PG X (.Tuple es kk pos) (gC X.K X.mg own (cTp n gs)) := cg_tup hc h hn hst
end
/-- what a comprehension's block is asked, by deciding -/
def blkC (N : List Str) (sc scope : Scope) (own : List (Str × Nat)) : Bool :=
  decide (scope.kind = .function) && scope.names.all (fun y => decide (scope.names.lookup y.1 = some y.2)) && own.all (fun p => decide (N[p.2]? = some p.1)) &&
  scope.names.all (fun y => !decide (y.2 = .free) || decide (sc.names.lookup y.1 = some .cell) || decide (sc.names.lookup y.1 = some .free)) &&
  scope.names.all (fun y => !(decide (y.2 = .local) || decide (y.2 = .cell)) || decide (y.1 ∈ own.map (·.1)) || !decide (y.1 ∈ N))
theorem blk_by {N : List Str} {sc scope : Scope} {own : List (Str × Nat)} (h : blkC N sc scope own = true) : BlkOk N sc scope own := by
  unfold blkC at h
  simp only [Bool.and_eq_true, Bool.not_eq_true', decide_eq_true_eq, List.all_eq_true, Bool.or_eq_true, decide_eq_false_iff_not] at h
  obtain ⟨⟨⟨⟨h1, h2⟩, h3⟩, h4⟩, h5⟩ := h
  refine ⟨h1, h2, h3, fun y hy e => ?_, fun y hy e => ?_⟩
  · rcases h4 y hy with (h | h) | h
    · exact absurd e h
    · exact .inl h
    · exact .inr h
  · rcases h5 y hy with (h | h) | h
    · rcases e with e | e
      · simp [e] at h
      · simp [e] at h
    · exact .inl h
    · exact .inr h
theorem tkN {Y : Cx} : Takes Y W0 := fun u s' ⟨_, _, _, _, _, _, _, _, _, _, _, _, _, _, _, _, w⟩ => w.elim
theorem xCo {elt tg iter : Expr} {ifs : List Expr} {scope : Scope} {fi : FI} {gt : FC} {ff fe : FE} (own : List (Str × Nat)) (N : List Str) (sco : Scope) (hc : X.calm = true) (hN : X.N.Nodup) (ok : blkC N sco scope own = true) (hi : SI X W tg iter fi)
    (hg : ∀ (s : Shared) (H : Hp) (C : Addr) (cl : List (Str × Addr)) (fp : List Addr), PG (X.blk s H scope (compEnvC scope cl C X.env) fp) tg (gC X.K X.mg (own.map (·.2)) gt))
    (ht : ∀ (s : Shared) (H : Hp) (C : Addr) (cl : List (Str × Addr)) (fp : List Addr), PTs (X.blk s H scope (compEnvC scope cl C X.env) fp) ifs (tT X.K X.mg W0 ff))
    (he : ∀ (s : Shared) (H : Hp) (C : Addr) (cl : List (Str × Addr)) (fp : List Addr), SE (X.blk s H scope (compEnvC scope cl C X.env) fp) W0 elt fe) (hs : ∀ x, foldedSetIterable iter X.env x = pure x := by exact fun _ => rfl) (eN : X.N = N := by rfl) (es : X.env.scope = sco := by rfl) :
    SE X W (.ListComp elt [⟨tg, iter, ifs, 0⟩] scope pos) (fComp fi gt ff fe (own.map (·.2))) := by
  subst eN es
  exact se_comp hc hN hi (blk_by ok) hg ht he hs
theorem xSCo {elt tg iter : Expr} {ifs : List Expr} {scope : Scope} {fi : FI} {gt : FC} {ff fe : FE} {py spos : Pos} (i : Nat) (own : List (Str × Nat)) (N : List Str) (sco : Scope) (hc : X.calm = true) (hN : X.N.Nodup) (ok : blkC N sco scope own = true) (hi : SI X W tg iter fi)
    (hg : ∀ (s : Shared) (H : Hp) (C : Addr) (cl : List (Str × Addr)) (fp : List Addr), PG (X.blk s H scope (compEnvC scope cl C X.env) fp) tg (gC X.K X.mg (own.map (·.2)) gt))
    (ht : ∀ (s : Shared) (H : Hp) (C : Addr) (cl : List (Str × Addr)) (fp : List Addr), PTs (X.blk s H scope (compEnvC scope cl C X.env) fp) ifs (tT X.K X.mg W0 ff))
    (he : ∀ (s : Shared) (H : Hp) (C : Addr) (cl : List (Str × Addr)) (fp : List Addr), SE (X.blk s H scope (compEnvC scope cl C X.env) fp) W0 elt fe)
    (hy : X.N[i]? = some y := by rfl) (hyl : X.env.scope.names.lookup y = some .local := by rfl) (hsw : swapsWith (.ListComp elt [⟨tg, iter, ifs, 0⟩] scope pos) (some (.Name y py)) spos.line X.env = pure true := by rfl) (hs : ∀ x, foldedSetIterable iter X.env x = pure x := by exact fun _ => rfl) (eN : X.N = N := by rfl) (es : X.env.scope = sco := by rfl) :
    SS X W (.Assign [.Name y py] (.ListComp elt [⟨tg, iter, ifs, 0⟩] scope pos) spos) (sAsg (fComp fi gt ff fe (own.map (·.2))) (gNm i)) := by
  subst eN es
  exact ss_setLc hc hN hy hyl hsw hi (blk_by ok) hg ht he hs
end
end MP

namespace MP
open PySem L2 PySem.Spec PyProof.Rows

/-! ### list(range(..)) -/
def rgD (a b : Int) : List D := (List.range (b - a).toNat).map fun i => D.int (a + (i : Nat))
theorem rgD_rep {K : PySem.W.Frag} {μ : Nat → Addr} {H : Hp} {N : Nat} (f : Nat → Int) : ∀ l : List Nat, RepVs K μ H N (l.map fun i => D.int (f i)) (l.map fun i => V.int (f i))
  | [] => rfl
  | _ :: l => ⟨_, _, rfl, rfl, rgD_rep f l⟩
abbrev rgOk (a b : Int) : Bool := ok62 a && ok62 b && Nat.ble (b - a).toNat lim
def rgNew (a b : Int) (S : Store) : R D := if rgOk a b then .ok (.ref S.length) (S ++ [.lst (rgD a b)]) else .fail
def fLstRg1 (a : FE) : FE := fun ρ S => (a ρ S).bind fun x S1 => match x with
  | .int j => rgNew 0 j S1
  | _ => .fail
def fLstRg2 (a b : FE) : FE := fun ρ S => (a ρ S).bind fun x S1 => (b ρ S1).bind fun y S2 => match x, y with
  | .int i, .int j => rgNew i j S2
  | _, _ => .fail
section
variable {X : Cx} {W : WX} {a b : Expr} {fa fb : FE} {p p2 pos pos2 : Pos}
theorem ok62_ok {i : Int} (h : ok62 i = true) : -(2 ^ 62) ≤ i ∧ i < 2 ^ 62 := ok62_iff h
theorem rg_end {K : PySem.W.Frag} {mg : Str → Option Value} {σ : L2.St} {μ : Nat → Addr} {S : Store} {H : Hp} {Q : VK} {i j : Int} (r : Rep K mg μ S H) (h : Pst K mg W σ (rgNew i j S) μ S H fun d μ' S' H' => ∀ v, RepV K μ' H' S'.length d v → Q v H') :
    RgOk i j ∧ ∀ q, H q = none → Q (.ref q) (upd H q (.lst (rgV i j))) := by
  unfold rgNew at h
  split at h
  · rename_i hc
    simp only [Bool.and_eq_true] at hc
    obtain ⟨⟨h1, h2⟩, h3⟩ := hc
    have h3 : (j - i).toNat ≤ lim := Nat.le_of_ble_eq_true h3
    obtain ⟨a1, a2⟩ := ok62_ok h1
    obtain ⟨b1, b2⟩ := ok62_ok h2
    exact ⟨⟨a1, a2, b1, b2, Nat.le_trans h3 (by decide)⟩, fun q hq => h _ _ (After.newLst r hq (rgD_rep _ _)) _ RepV.newRef⟩
  · exact h.elim
theorem xLR1 (hm : X.mg "list" = none) (hmr : X.mg "range" = none) (ha : SE X W a fa) (hc : X.calm = true := by rfl) (hg : Gl X "list" := by rfl) (hgr : Gl X "range" := by rfl)
    (na : starEach [.Call (.Name "range" p) [a] [] pos] X.env = (false, eval (.Call (.Name "range" p) [a] [] pos) X.env) :: starEach [] X.env := by rfl) (nb : starEach [a] X.env = (false, eval a X.env) :: starEach [] X.env := by rfl) :
    SE X W (.Call (.Name "list" p2) [.Call (.Name "range" p) [a] [] pos] [] pos2) (fLstRg1 fa) :=
  PE.imp (pe_listRg hc hg hm (prg_1 hgr hmr ha nb) na) fun σ H Q h => by
    obtain ⟨μ, S, ρ, r, en, q⟩ := h
    refine (q.toE r en).mono fun x H1 ⟨d, μ1, S1, r1, e1, rx, _, p1⟩ => ?_
    cases d with
    | int j =>
      cases rx
      exact ⟨j, rfl, rg_end r1 p1⟩
    | _ => exact p1.elim
theorem xLR2 (hm : X.mg "list" = none) (hmr : X.mg "range" = none) (ha : SE X W a fa) (hb : SE X W b fb) (hc : X.calm = true := by rfl) (hg : Gl X "list" := by rfl) (hgr : Gl X "range" := by rfl)
    (na : starEach [.Call (.Name "range" p) [a, b] [] pos] X.env = (false, eval (.Call (.Name "range" p) [a, b] [] pos) X.env) :: starEach [] X.env := by rfl) (nb : starEach [a, b] X.env = (false, eval a X.env) :: starEach [b] X.env := by rfl)
    (nc : starEach [b] X.env = (false, eval b X.env) :: starEach [] X.env := by rfl) (hp : (backTo pos (starEach [b] X.env)).any (·.1) = false := by rfl) :
    SE X W (.Call (.Name "list" p2) [.Call (.Name "range" p) [a, b] [] pos] [] pos2) (fLstRg2 fa fb) :=
  PE.imp (pe_listRg hc hg hm (prg_2 hgr hmr ha hb nb nc hp) na) fun σ H Q h => by
    obtain ⟨μ, S, ρ, r, en, q⟩ := h
    refine (q.toE r en).mono fun x H1 ⟨d, μ1, S1, r1, e1, rx, f1, p1⟩ => ?_
    refine (p1.toE r1 e1).mono fun y H2 ⟨d2, μ2, S2, r2, e2, ry, f2, p2⟩ => ?_
    cases d with
    | int i =>
      cases d2 with
      | int j =>
        cases ry
        have rx' := f2.val r1 rx
        cases rx
        exact ⟨i, j, rfl, rfl, rg_end r2 p2⟩
      | _ => exact p2.elim
    | _ => exact p2.elim
end

/-! ### the law's own promise -/
theorem FnG.imp {P : Program} {w : World} {K : PySem.W.Frag} {mg : Str → Option Value} {base : Heap} {k : Nat} {f : Addr} {fd : FuncData} {ps : List Str} {sp sp' : Sp} (F : FnG P w K mg base k f fd ps sp) (h : ∀ vs H Q E, sp' vs H Q E → sp vs H Q E) : FnG P w K mg base k f fd ps sp' :=
  ⟨fun vs H Q E q => F.len vs H Q E (h _ _ _ _ q), fun A outer s H args us vs Q E hr he hb hv hs => F.run A outer s H args us vs Q E hr he hb hv (h _ _ _ _ hs)⟩
theorem script_rep {K : PySem.W.Frag} {μ : Nat → Addr} {H : Hp} {N : Nat} : ∀ ns : List Int, RepVs K μ H N (ns.map D.int) (ns.map V.int)
  | [] => rfl
  | _ :: ns => ⟨_, _, rfl, rfl, script_rep ns⟩
theorem law_fn {P : Program} {w : World} {K : PySem.W.Frag} {mg : Str → Option Value} {base : Heap} {k n : Nat} {f : Addr} {fd : FuncData} {x : Str} {cf : CF} (F : FnG P w K mg base k f fd [x] (spD K mg cf))
    (L : ∀ ns : List Int, ns.length ≤ n → (∀ z ∈ ns, Builtin.Int.intBits z ≤ 1048576) → ∃ S, cf [.rl (ns.map D.int)] [] = .ok (.bl true) S) :
    FnG P w K mg base k f fd [x] (fun vs H Q _ => ∃ (a : Addr) (ns : List Int), vs = [V.ref a] ∧ SqL K H a (ns.map V.int) ∧ Only H ∧ ns.length ≤ n ∧ (∀ z ∈ ns, Builtin.Int.intBits z ≤ 1048576) ∧ ∀ H', Q (.bl true) H') :=
  F.imp fun vs H Q E ⟨a, ns, e, hS, hO, hl, hb, q⟩ => by
    obtain ⟨S, hL⟩ := L ns hl hb
    subst e
    refine ⟨fun _ => 0, [], [.rl (ns.map D.int)], ⟨fun i j hi => absurd hi (Nat.not_lt_zero _), fun i o e => by cases e⟩, ⟨_, _, rfl, ⟨a, _, rfl, ?_, script_rep ns⟩, rfl⟩, ?_⟩
    · rcases hS with (h | ⟨o, h⟩) | h
      · rcases hO a with z | ⟨o, xs, z⟩
        · rw [z] at h; cases h
        · rw [z] at h; cases h
      · exact .inl ⟨o, h⟩
      · exact .inr h
    · rw [hL]
      intro μ' H' _ v rv
      cases rv
      exact q H'
theorem law_binds {K : PySem.W.Frag} {x qual y : Str} {st : Stmt} {f : Addr} {fd : FuncData} (F : Fun K x qual st f fd)
    (h : ∀ (kV doc pm : Value) (an : Option Addr) (cdv ct : Value) (u : Value), bindArgs (PySem.W.fnOf x qual (defArgs st) (defBody st) (defScope st) .none kV doc pm an cdv ct) ⟨[u], []⟩ = pure [(y, u)]) (s : Shared) (u : Value) : BindsTo s fd ⟨[u], []⟩ [(y, u)] := by
  obtain ⟨oc, od, kV, doc, pm, an, cdv, ct, osl, rfl, lk, hcd⟩ := F.ex
  exact .of_eq (h kV doc pm an cdv ct u)
end MP

namespace MP
open PySem

/-! ### running by simp -/
section
variable {ρ : Rho} {S S' : Store} {a b c o v : FE} {f : Op2} {g g' : FA} {x : D}
@[simp] theorem fVar_ap {i : Nat} : fVar i ρ S = (match ρ[i]? with | some (some d) => .ok d S | _ => .fail) := rfl
@[simp] theorem fC_ap {d : D} : fC d ρ S = .ok d S := rfl
@[simp] theorem f2_ap {f : Op2} : f2 f a b ρ S = (a ρ S).bind fun x S1 => (b ρ S1).bind fun y S2 => R.of (f x y S2) := rfl
@[simp] theorem f1_ap {f : Op1} : f1 f a ρ S = (a ρ S).bind fun x S1 => R.of (f x S1) := rfl
@[simp] theorem fB_ap : fB a ρ S = (a ρ S).bind fun x S1 => match x with | .bl b => .ok (.bl b) S1 | _ => .fail := rfl
@[simp] theorem fNot_ap : fNot a ρ S = (a ρ S).bind fun x S1 => match x with | .bl b => .ok (.bl !b) S1 | _ => .fail := rfl
@[simp] theorem fAnd_ap : fAnd a b ρ S = (a ρ S).bind fun x S1 => match x with | .bl true => b ρ S1 | .bl false => .ok (.bl false) S1 | _ => .fail := rfl
@[simp] theorem fOr_ap : fOr a b ρ S = (a ρ S).bind fun x S1 => match x with | .bl true => .ok (.bl true) S1 | .bl false => b ρ S1 | _ => .fail := rfl
@[simp] theorem fIfE_ap : fIfE c a b ρ S = (c ρ S).bind fun x S1 => match x with | .bl k => (fun (k : Bool) S1 => if k = true then a ρ S1 else b ρ S1) k S1 | _ => .fail := rfl
@[simp] theorem aNil_ap : aNil ρ S = .ok [] S := rfl
@[simp] theorem aCons_ap : aCons a g ρ S = (a ρ S).bind fun x S1 => (g ρ S1).bind fun xs S2 => .ok (x :: xs) S2 := rfl
@[simp] theorem fTup_ap : fTup g ρ S = (g ρ S).bind fun ds S1 => if szOk ds.length = true then .ok (.tup ds) S1 else .fail := rfl
@[simp] theorem fLst_ap : fLst g ρ S = (g ρ S).bind fun ds S1 => if szOk ds.length = true then .ok (.ref S1.length) (S1 ++ [.lst ds]) else .fail := rfl
@[simp] theorem fCall_ap {cf : CF} : fCall cf g ρ S = (g ρ S).bind fun ds S1 => cf ds S1 := rfl
@[simp] theorem fKw_ap {cf : CF} {n m : Nat} {pm : List Nat} : fKw cf n m pm g g' ρ S = (g ρ S).bind fun ds S1 => (g' ρ S1).bind fun zs S2 => if Nat.beq ds.length n && Nat.beq zs.length m then cf (permL pm (ds ++ zs)) S2 else .fail := rfl
@[simp] theorem fCallB_ap {f : OpN} : fCallB f g ρ S = (g ρ S).bind fun ds S1 => R.of (f ds S1) := rfl
@[simp] theorem fBM_ap {t : Ty} {f : OpM} : fBM t f o g ρ S = (o ρ S).bind fun d S1 => if tyB S1 d t = true then (g ρ S1).bind fun ds S2 => R.of (f d ds S2) else .fail := rfl
@[simp] theorem fBits_ap : fBits o ρ S = (o ρ S).bind fun d S1 => match d with | .int i => .ok (.int (Builtin.Int.intBits i)) S1 | _ => .fail := rfl
@[simp] theorem fIsi_ap {t : Ty} : fIsi t a ρ S = (a ρ S).bind fun d S1 => match tyD S1 d with | some u => .ok (.bl (isTy u t)) S1 | none => .fail := rfl
@[simp] theorem fSl_ap {f : OpS} {l h : FO} : fSl f a l h ρ S = (a ρ S).bind fun d S1 => (l ρ S1).bind fun l S2 => (h ρ S2).bind fun h S3 => R.of (f d l h S3) := rfl
@[simp] theorem oNo_ap : oNo ρ S = .ok none S := rfl
@[simp] theorem oPt_ap : oPt a ρ S = (a ρ S).bind fun d S1 => match d with | .int i => .ok (some i) S1 | _ => .fail := rfl
@[simp] theorem fLstRg1_ap : fLstRg1 a ρ S = (a ρ S).bind fun x S1 => match x with | .int j => rgNew 0 j S1 | _ => .fail := rfl
@[simp] theorem fLstRg2_ap : fLstRg2 a b ρ S = (a ρ S).bind fun x S1 => (b ρ S1).bind fun y S2 => match x, y with | .int i, .int j => rgNew i j S2 | _, _ => .fail := rfl
@[simp] theorem fChain_ap {f f' : Op2} : fChain f f' a b c ρ S = (a ρ S).bind fun x S1 => (b ρ S1).bind fun y S2 => (R.of (f x y S2)).bind fun z S3 => match z with | .bl k => (fun (k : Bool) S3 => if k = true then (c ρ S3).bind fun w S4 => R.of (f' y w S4) else .ok (.bl false) S3) k S3 | _ => .fail := rfl
variable {s t : FS} {gt : FT} {gs : FTs}
@[simp] theorem sNil_ap : sNil ρ S = .ok (.nx ρ) S := rfl
@[simp] theorem sCons_ap : sCons s t ρ S = (s ρ S).bind fun fl S1 => fl.then_ S1 t := rfl
@[simp] theorem then_nx {k : Rho → Store → R Fl} : (Fl.nx ρ).then_ S k = k ρ S := rfl
@[simp] theorem then_rt {k : Rho → Store → R Fl} : (Fl.rt x).then_ S k = .ok (.rt x) S := rfl
@[simp] theorem then_ct {k : Rho → Store → R Fl} : (Fl.ct ρ).then_ S k = .ok (.ct ρ) S := rfl
@[simp] theorem then_bk {k : Rho → Store → R Fl} : (Fl.bk ρ).then_ S k = .ok (.bk ρ) S := rfl
@[simp] theorem sRet_ap : sRet a ρ S = withE (a ρ S) ρ fun d S1 => .ok (.rt d) S1 := rfl
@[simp] theorem sRetN_ap : sRetN ρ S = .ok (.rt .non) S := rfl
@[simp] theorem sExpr_ap : sExpr a ρ S = withE (a ρ S) ρ fun _ S1 => .ok (.nx ρ) S1 := rfl
@[simp] theorem sIf_ap : sIf a s t ρ S = withE (a ρ S) ρ fun x S1 => match x with | .bl k => (fun (k : Bool) S1 => if k = true then s ρ S1 else t ρ S1) k S1 | _ => .fail := rfl
@[simp] theorem sCt_ap : sCt ρ S = .ok (.ct ρ) S := rfl
@[simp] theorem sBk_ap : sBk ρ S = .ok (.bk ρ) S := rfl
@[simp] theorem sAsg_ap : sAsg a gt ρ S = withE (a ρ S) ρ fun d S1 => noX (gt d ρ S1) fun ρ' S2 => .ok (.nx ρ') S2 := rfl
@[simp] theorem sPar_ap {is : List Nat} : sPar is g ρ S = withE (g ρ S) ρ fun ds S1 => if ds.length = is.length then .ok (.nx ((is.zip ds).foldl (fun ρ p => ρ.set p.1 (some p.2)) ρ)) S1 else .fail := rfl
@[simp] theorem sAug_ap {i : Nat} {f : Op2} : sAug i f a ρ S = (match ρ[i]? with | some (some x) => withE (a ρ S) ρ fun y S1 => (match f x y S1 with | some (z, S2) => .ok (.nx (ρ.set i (some z))) S2 | none => .fail) | _ => .fail) := rfl
@[simp] theorem gNm_ap {i : Nat} : gNm i x ρ S = .ok (ρ.set i (some x)) S := rfl
@[simp] theorem gsNil_ap : gsNil [] ρ S = .ok ρ S := rfl
@[simp] theorem gsCons_ap {ds : List D} : gsCons gt gs (x :: ds) ρ S = (gt x ρ S).bind fun ρ1 S1 => gs ds ρ1 S1 := rfl
@[simp] theorem gTp_ap {n : Nat} {xs : List D} : gTp n gs (.tup xs) ρ S = if xs.length = n then gs xs ρ S else .fail := rfl
@[simp] theorem gSb_ap {f : Op3} : gSb f o a x ρ S = noX (o ρ S) fun u S1 => noX (a ρ S1) fun y S2 => match f u y x S2 with | some S3 => .ok ρ S3 | none => .fail := rfl
@[simp] theorem noX_ap {α β : Type} {z : α} {k : α → Store → R β} : noX (.ok z S) k = k z S := rfl
@[simp] theorem fIter_ap : fIter a ρ S = (a ρ S).bind fun d S1 => match srcOf S1 d with | some s => .ok s S1 | none => .fail := rfl
@[simp] theorem fRange1_ap : fRange1 g ρ S = (g ρ S).bind fun ds S1 => match ds with | [.int j] => (if ok62 j then .ok (srcRg 0 1 j.toNat) S1 else .fail) | _ => .fail := rfl
@[simp] theorem fRange2_ap : fRange2 g ρ S = (g ρ S).bind fun ds S1 => match ds with | [.int i, .int j] => (if ok62 i && ok62 j then .ok (srcRg i 1 (j - i).toNat) S1 else .fail) | _ => .fail := rfl
@[simp] theorem fRange3_ap : fRange3 g ρ S = (g ρ S).bind fun ds S1 => match ds with | [.int i, .int j, .int c] => (if ok62 i && (ok62 j && decide (c = -1)) then .ok (srcRg i (-1) (i - j).toNat) S1 else .fail) | _ => .fail := rfl
@[simp] theorem sFor_ap {fi : FI} : sFor fi gt s ρ S = withE (fi ρ S) ρ fun src S1 => forL src.item gt s (src.cnt + 1) 0 ρ S1 := rfl
@[simp] theorem sWhile_ap {n : Nat} : sWhile n a s ρ S = whileL a s n ρ S := rfl
/-! operators on values -/
variable {i j : Int} {x y z : Str} {p q : Bool} {n : Nat} {d e : D}
@[simp] theorem oI_int {C : Int → Int → Bool} {h : Int → Int → Int} : oI C h (.int i) (.int j) S = if C i j = true then some (.int (h i j), S) else none := rfl
@[simp] theorem oAdd_int : oAdd (.int i) (.int j) S = some (.int (i + j), S) := rfl
@[simp] theorem oB_int {h : Int → Int → Bool} : oB h (.int i) (.int j) S = some (.bl (h i j), S) := rfl
@[simp] theorem oU_int {h : Int → Int} : oU h (.int i) S = some (.int (h i), S) := rfl
@[simp] theorem oEq_int : oEq p (.int i) (.int j) S = some (.bl (xor p (i == j)), S) := rfl
@[simp] theorem oEq_str : oEq p (.str x) (.str y) S = some (.bl (xor p (sEq x y)), S) := rfl
@[simp] theorem oEq_bl {k l : Bool} : oEq p (.bl k) (.bl l) S = some (.bl (xor p (k == l)), S) := rfl
@[simp] theorem oIs_non : oIs p d .non S = some (.bl (xor p (isNonD d)), S) := rfl
@[simp] theorem oIs_bl {k l : Bool} : oIs p (.bl k) (.bl l) S = some (.bl (xor p (k == l)), S) := rfl
@[simp] theorem isNonD_non : isNonD .non = true := rfl
@[simp] theorem isNonD_int : isNonD (.int i) = false := rfl
@[simp] theorem isNonD_tup {xs : List D} : isNonD (.tup xs) = false := rfl
@[simp] theorem isNonD_str : isNonD (.str x) = false := rfl
@[simp] theorem isNonD_ref : isNonD (.ref n) = false := rfl
@[simp] theorem isNonD_bl : isNonD (.bl p) = false := rfl
@[simp] theorem oIx_tup {xs : List D} : oIx (.tup xs) (.int i) S = (L2.atI xs i).bind fun d => some (d, S) := rfl
@[simp] theorem oIx_rl {xs : List D} : oIx (.rl xs) (.int i) S = (L2.atI xs i).bind fun d => some (d, S) := rfl
@[simp] theorem oIx_ref : oIx (.ref n) (.int i) S = (lstOf S (.ref n)).bind fun xs => (L2.atI xs i).bind fun d => some (d, S) := rfl
@[simp] theorem lstOf_ref : lstOf S (.ref n) = (match S[n]? with | some (.lst xs) => some xs | _ => none) := rfl
@[simp] theorem lstOf_rl {xs : List D} : lstOf S (.rl xs) = some xs := rfl
@[simp] theorem oInt_int : o1 oInt [.int i] S = some (.int i, S) := rfl
@[simp] theorem oInt_bl : o1 oInt [.bl p] S = some (.int (if p then 1 else 0), S) := rfl
@[simp] theorem oAbs_int : o1 oAbs [.int i] S = some (.int (if i < 0 then -i else i), S) := rfl
@[simp] theorem oMax_int : o2 oMax2 [.int i, .int j] S = some (.int (if j > i then j else i), S) := rfl
@[simp] theorem oMin_int : o2 oMin2 [.int i, .int j] S = some (.int (if j < i then j else i), S) := rfl
@[simp] theorem oLen_rl {xs : List D} : o1 oLen [.rl xs] S = some (.int xs.length, S) := rfl
@[simp] theorem oLen_tup {xs : List D} : o1 oLen [.tup xs] S = some (.int xs.length, S) := rfl
@[simp] theorem oLen_ref : o1 oLen [.ref n] S = (lstOf S (.ref n)).bind fun xs => some (.int xs.length, S) := rfl
@[simp] theorem oSum_ap : o1 oSum [d] S = ((lstOf S d).bind intsOf).bind fun ns => some (.int ns.sum, S) := rfl
@[simp] theorem oSl_rl {xs : List D} {lo hi : Option Int} : oSl (.rl xs) lo hi S = some (.ref S.length, S ++ [.lst (cutD xs lo hi)]) := rfl
@[simp] theorem oSet_ref : oSet (.ref n) (.int i) d S = (match S[n]? with | some (.lst xs) => (L2.ixN xs.length i).bind fun j => some (S.set n (.lst (xs.set j d))) | _ => none) := rfl
@[simp] theorem oRepr_ap : o1 oRepr [d] S = oRepr d S := rfl
@[simp] theorem tyD_int : tyD S (.int i) = some .int := rfl
@[simp] theorem tyD_bl : tyD S (.bl p) = some .bool := rfl
@[simp] theorem tyD_non : tyD S .non = some .non := rfl
@[simp] theorem tyD_str : tyD S (.str x) = some .str := rfl
@[simp] theorem tyD_tup {xs : List D} : tyD S (.tup xs) = some .tuple := rfl
end
/-- small lists, by places -/
@[simp] theorem atI_nat {α : Type} (xs : List α) (n : Nat) : L2.atI xs (n : Int) = xs[n]? := by
  unfold L2.atI L2.ixN
  rw [if_pos (Int.natCast_nonneg n)]
  by_cases h : (n : Int) < xs.length
  · rw [if_pos h]; simp
  · rw [if_neg h, List.getElem?_eq_none (by omega)]; rfl
@[simp] theorem atI_0 {α : Type} (xs : List α) : L2.atI xs 0 = xs[0]? := atI_nat xs 0
@[simp] theorem atI_1 {α : Type} (xs : List α) : L2.atI xs 1 = xs[1]? := atI_nat xs 1
@[simp] theorem atI_2 {α : Type} (xs : List α) : L2.atI xs 2 = xs[2]? := atI_nat xs 2
@[simp] theorem atI_3 {α : Type} (xs : List α) : L2.atI xs 3 = xs[3]? := atI_nat xs 3
@[simp] theorem atI_4 {α : Type} (xs : List α) : L2.atI xs 4 = xs[4]? := atI_nat xs 4
@[simp] theorem atI_5 {α : Type} (xs : List α) : L2.atI xs 5 = xs[5]? := atI_nat xs 5
@[simp] theorem atI_6 {α : Type} (xs : List α) : L2.atI xs 6 = xs[6]? := atI_nat xs 6
@[simp] theorem atI_7 {α : Type} (xs : List α) : L2.atI xs 7 = xs[7]? := atI_nat xs 7
@[simp] theorem atI_8 {α : Type} (xs : List α) : L2.atI xs 8 = xs[8]? := atI_nat xs 8
@[simp] theorem atI_9 {α : Type} (xs : List α) : L2.atI xs 9 = xs[9]? := atI_nat xs 9
@[simp] theorem atI_10 {α : Type} (xs : List α) : L2.atI xs 10 = xs[10]? := atI_nat xs 10
@[simp] theorem atI_11 {α : Type} (xs : List α) : L2.atI xs 11 = xs[11]? := atI_nat xs 11
@[simp] theorem atI_12 {α : Type} (xs : List α) : L2.atI xs 12 = xs[12]? := atI_nat xs 12
@[simp] theorem atI_13 {α : Type} (xs : List α) : L2.atI xs 13 = xs[13]? := atI_nat xs 13
@[simp] theorem atI_14 {α : Type} (xs : List α) : L2.atI xs 14 = xs[14]? := atI_nat xs 14
@[simp] theorem atI_15 {α : Type} (xs : List α) : L2.atI xs 15 = xs[15]? := atI_nat xs 15
@[simp] theorem ixN_nat (m n : Nat) : L2.ixN m (n : Int) = if n < m then some n else none := by
  unfold L2.ixN
  rw [if_pos (Int.natCast_nonneg n)]
  by_cases h : n < m
  · rw [if_pos (by omega), if_pos h]; simp
  · rw [if_neg (by omega), if_neg h]
@[simp] theorem ixN_0 (m : Nat) : L2.ixN m 0 = if 0 < m then some 0 else none := ixN_nat m 0
@[simp] theorem ixN_1 (m : Nat) : L2.ixN m 1 = if 1 < m then some 1 else none := ixN_nat m 1
@[simp] theorem ixN_2 (m : Nat) : L2.ixN m 2 = if 2 < m then some 2 else none := ixN_nat m 2
@[simp] theorem ixN_3 (m : Nat) : L2.ixN m 3 = if 3 < m then some 3 else none := ixN_nat m 3
@[simp] theorem ixN_4 (m : Nat) : L2.ixN m 4 = if 4 < m then some 4 else none := ixN_nat m 4
@[simp] theorem ixN_5 (m : Nat) : L2.ixN m 5 = if 5 < m then some 5 else none := ixN_nat m 5
/-- xs[-1] -/
theorem atI_m1 {α : Type} (xs : List α) : L2.atI xs (-1) = xs[xs.length - 1]? := by
  unfold L2.atI L2.ixN
  rw [if_neg (by decide)]
  cases xs with
  | nil => simp
  | cons x xs =>
    rw [if_pos (by simp; omega)]
    have e : ((-1 : Int) + ((x :: xs).length : Nat)).toNat = (x :: xs).length - 1 := by simp only [List.length_cons]; omega
    rw [e]
    rfl

/-! ### sizes -/
/-- below 2 ** n -/
def Sm (n : Nat) (i : Int) : Prop := i.natAbs < 2 ^ n
theorem Sm.mono {n m : Nat} {i : Int} (h : Sm n i) (hm : n ≤ m) : Sm m i := Nat.lt_of_lt_of_le h (Nat.pow_le_pow_right (by decide) hm)
theorem Sm.mul {n m : Nat} {i j : Int} (h : Sm n i) (g : Sm m j) : Sm (n + m) (i * j) := by
  unfold Sm at *
  rw [Int.natAbs_mul, Nat.pow_add]
  exact Nat.mul_lt_mul'' h g
theorem Sm.add {n : Nat} {i j : Int} (h : Sm n i) (g : Sm n j) : Sm (n + 1) (i + j) := by
  unfold Sm at *
  rw [Nat.pow_succ]
  have := Int.natAbs_add_le i j
  omega
theorem Sm.sub {n : Nat} {i j : Int} (h : Sm n i) (g : Sm n j) : Sm (n + 1) (i - j) := by
  unfold Sm at *
  rw [Nat.pow_succ]
  have := Int.natAbs_sub_le i j
  omega
theorem Sm.bits {n : Nat} {i : Int} (h : Sm n i) : bits i ≤ n + 1 := by
  unfold Sm at h
  unfold MP.bits
  by_cases h0 : i.natAbs = 0
  · rw [h0]; simp
  · have := (Nat.log2_lt h0).mpr h
    omega
theorem Sm.cMul {n m : Nat} {i j : Int} (h : Sm n i) (g : Sm m j) (hn : n + m ≤ 134217726) : cMul i j = true := by
  have h1 := h.bits
  have h2 := g.bits
  exact Nat.ble_eq_true_of_le (by omega)
theorem Sm.of_lt {n : Nat} {i : Int} (h0 : 0 ≤ i) (h : i < 2 ^ n) : Sm n i := by
  unfold Sm
  have e : ((i.natAbs : Nat) : Int) = i := Int.natAbs_of_nonneg h0
  have : ((i.natAbs : Nat) : Int) < ((2 ^ n : Nat) : Int) := by rw [e]; simpa using h
  exact Int.ofNat_lt.mp this
theorem Sm.of_nat {n k : Nat} (h : k < 2 ^ n) : Sm n (k : Int) := h
theorem Sm.emod {n : Nat} {i j : Int} (hj : 0 < j) (g : Sm n j) : Sm n (i % j) := by
  unfold Sm at *
  have h1 := Int.emod_nonneg i (Int.ne_of_gt hj)
  have h2 := Int.emod_lt_of_pos i hj
  omega
theorem cDiv_sm {i j : Int} (h0 : 0 < j) (h : Sm 9000 j) : cDiv i j = true := by
  unfold cDiv
  rw [Bool.and_eq_true]
  refine ⟨by simpa using h0, ?_⟩
  rw [Nat.blt_eq]
  exact (Nat.log2_lt (by omega)).mpr h
theorem cMod_pos {i j : Int} (h0 : 0 < j) : cMod i j = true := by simpa [cMod] using h0
theorem Sm.lit {n : Nat} {i : Int} (h : i.natAbs < 2 ^ n := by decide) : Sm n i := h
theorem Sm.cPow {n : Nat} {i : Int} {k : Nat} (h : Sm n i) (hn : (n + 1) * k ≤ 134217728) : cPow i (k : Int) = true := by
  unfold MP.cPow
  rw [Bool.and_eq_true]
  refine ⟨by simp, ?_⟩
  have := h.bits
  rw [Int.toNat_natCast]
  exact Nat.ble_eq_true_of_le (Nat.le_trans (Nat.mul_le_mul_right k this) hn)

/-! ### loops -/
/-- for over places 0 .. n - 1 -/
theorem forL_inv {item : Store → Nat → Option (Option D)} {g : FT} {b : FS} {n : Nat} (I : Nat → Rho → Store → Prop)
    (hi : ∀ i ρ S, i < n → I i ρ S → ∃ x ρ1 S1 fl ρ2 S2, item S i = some (some x) ∧ g x ρ S = .ok ρ1 S1 ∧ b ρ1 S1 = .ok fl S2 ∧ (fl = .nx ρ2 ∨ fl = .ct ρ2) ∧ I (i + 1) ρ2 S2)
    (he : ∀ ρ S, I n ρ S → item S n = some none) : ∀ (k i : Nat) (ρ : Rho) (S : Store), i + k = n → I i ρ S → ∃ ρ' S', forL item g b (k + 1) i ρ S = .ok (.nx ρ') S' ∧ I n ρ' S'
  | 0, i, ρ, S, e, h => by
    have e' : i = n := by omega
    subst e'
    refine ⟨ρ, S, ?_, h⟩
    unfold forL
    rw [he ρ S h]
  | k + 1, i, ρ, S, e, h => by
    obtain ⟨x, ρ1, S1, fl, ρ2, S2, h1, h2, h3, h4, h5⟩ := hi i ρ S (by omega) h
    obtain ⟨ρ', S', h6, h7⟩ := forL_inv I hi he k (i + 1) ρ2 S2 (by omega) h5
    refine ⟨ρ', S', ?_, h7⟩
    unfold forL
    rw [h1]
    show noX (g x ρ S) _ = _
    rw [h2]
    show (b ρ1 S1).bind _ = _
    rw [h3]
    rcases h4 with e | e <;> subst e <;> exact h6
/-- range(lo, lo + n) -/
theorem for_rg {lo : Int} {g : FT} {b : FS} {n : Nat} (I : Nat → Rho → Store → Prop)
    (hi : ∀ i ρ S, i < n → I i ρ S → ∃ ρ1 S1 fl ρ2 S2, g (.int (lo + i * 1)) ρ S = .ok ρ1 S1 ∧ b ρ1 S1 = .ok fl S2 ∧ (fl = .nx ρ2 ∨ fl = .ct ρ2) ∧ I (i + 1) ρ2 S2) {ρ : Rho} {S : Store} (h : I 0 ρ S) :
    ∃ ρ' S', forL (srcRg lo 1 n).item g b ((srcRg lo 1 n).cnt + 1) 0 ρ S = .ok (.nx ρ') S' ∧ I n ρ' S' :=
  forL_inv I (fun i ρ S hin h => let ⟨ρ1, S1, fl, ρ2, S2, h1, h2, h3, h4⟩ := hi i ρ S hin h; ⟨.int (lo + i * 1), ρ1, S1, fl, ρ2, S2, by simp [srcRg, hin], h1, h2, h3, h4⟩) (fun ρ S h => by simp [srcRg]) n 0 ρ S (by omega) h
/-- range(lo, lo - n, -1) -/
theorem for_rgD {lo : Int} {g : FT} {b : FS} {n : Nat} (I : Nat → Rho → Store → Prop)
    (hi : ∀ i ρ S, i < n → I i ρ S → ∃ ρ1 S1 fl ρ2 S2, g (.int (lo + i * (-1))) ρ S = .ok ρ1 S1 ∧ b ρ1 S1 = .ok fl S2 ∧ (fl = .nx ρ2 ∨ fl = .ct ρ2) ∧ I (i + 1) ρ2 S2) {ρ : Rho} {S : Store} (h : I 0 ρ S) :
    ∃ ρ' S', forL (srcRg lo (-1) n).item g b ((srcRg lo (-1) n).cnt + 1) 0 ρ S = .ok (.nx ρ') S' ∧ I n ρ' S' :=
  forL_inv I (fun i ρ S hin h => let ⟨ρ1, S1, fl, ρ2, S2, h1, h2, h3, h4⟩ := hi i ρ S hin h; ⟨.int (lo + i * (-1)), ρ1, S1, fl, ρ2, S2, by simp [srcRg, hin], h1, h2, h3, h4⟩) (fun ρ S h => by simp [srcRg]) n 0 ρ S (by omega) h
/-- a list comprehension over places 0 .. n - 1, without tests that fail -/
theorem compV_inv {item : Store → Nat → Option (Option D)} {tg : FC} {flt elt : FE} {n : Nat} {ρ : Rho} (I : Nat → Store → List D → Prop)
    (hi : ∀ i S ds, i < n → I i S ds → ∃ x ρ1 S1 y S2, item S i = some (some x) ∧ tg x ρ = some ρ1 ∧ flt ρ1 S = .ok (.bl true) S1 ∧ elt ρ1 S1 = .ok y S2 ∧ I (i + 1) S2 (ds ++ [y]))
    (he : ∀ S ds, I n S ds → item S n = some none) : ∀ (k i : Nat) (S : Store) (ds : List D), i + k = n → I i S ds → ∃ es S', compV item tg flt elt (k + 1) i ρ S = .ok es S' ∧ I n S' (ds ++ es)
  | 0, i, S, ds, e, h => by
    have e' : i = n := by omega
    subst e'
    refine ⟨[], S, ?_, by simpa using h⟩
    unfold compV
    rw [he S ds h]
  | k + 1, i, S, ds, e, h => by
    obtain ⟨x, ρ1, S1, y, S2, h1, h2, h3, h4, h5⟩ := hi i S ds (by omega) h
    obtain ⟨es, S', h6, h7⟩ := compV_inv I hi he k (i + 1) S2 (ds ++ [y]) (by omega) h5
    refine ⟨y :: es, S', ?_, by simpa using h7⟩
    unfold compV
    rw [h1]
    show (match tg x ρ with | none => _ | some ρ1 => _) = _
    rw [h2]
    show noX (flt ρ1 S) _ = _
    rw [h3]
    show noX (elt ρ1 S1) _ = _
    rw [h4]
    show (compV item tg flt elt (k + 1) (i + 1) ρ S2).bind _ = _
    rw [h6]
    rfl
/-- while, turn by turn -/
theorem whileL_inv {t : FE} {b : FS} (I : Nat → Rho → Store → Prop)
    (hi : ∀ m ρ S, I (m + 1) ρ S → t ρ S = .ok (.bl true) S ∧ ∃ ρ2 S2, b ρ S = .ok (.nx ρ2) S2 ∧ I m ρ2 S2) (he : ∀ ρ S, I 0 ρ S → t ρ S = .ok (.bl false) S) :
    ∀ (m N : Nat) (ρ : Rho) (S : Store), m < N → I m ρ S → ∃ ρ' S', whileL t b N ρ S = .ok (.nx ρ') S' ∧ I 0 ρ' S'
  | m, 0, _, _, h, _ => absurd h (Nat.not_lt_zero _)
  | 0, N + 1, ρ, S, _, h => by
    refine ⟨ρ, S, ?_, h⟩
    unfold whileL
    rw [he ρ S h]
    rfl
  | m + 1, N + 1, ρ, S, hN, h => by
    obtain ⟨h1, ρ2, S2, h2, h3⟩ := hi m ρ S h
    obtain ⟨ρ', S', h4, h5⟩ := whileL_inv I hi he m N ρ2 S2 (by omega) h3
    refine ⟨ρ', S', ?_, h5⟩
    unfold whileL
    rw [h1]
    show (b ρ S).bind _ = _
    rw [h2]
    exact h4
end MP

namespace MP
open PySem

/-! ### what all laws share: the pot of drawn digits -/
def mTake (c1 c2 c3 c4 c5 : Int) : FS :=
    (sCons (sIf (fB (f2 oGt (f2 oIx (fVar 0) (fC (.int 0))) (fC (.int 0)))) (sCons (sAsg (f2 (oI cMod fun i j => i % j) (fCallB (o1 oInt) (aCons (f2 oIx (fVar 0) (fC (.int 0))) aNil)) (fVar 1)) (gNm 2))
      (sCons (sAsg (f2 (oI cDiv fun i j => i / j) (f2 oIx (fVar 0) (fC (.int 0))) (fVar 1)) (gSb oSet (fVar 0) (fC (.int 0))))
      (sCons (sRet (fVar 2))
      sNil))) sNil)
      (sCons (sAsg (f2 oAdd (f2 oIx (fVar 0) (fC (.int 2))) (fC (.int 1))) (gSb oSet (fVar 0) (fC (.int 2))))
      (sCons (sAsg (f2 oIx (fLst (aCons (fC (.int 2147483647)) (aCons (fC (.int 2147483629)) (aCons (fC (.int 2147483587)) (aCons (fC (.int 2147483579)) (aCons (fC (.int 2147483563)) aNil)))))) (f2 (oI cMod fun i j => i % j) (fCallB (o1 oInt) (aCons (f2 oIx (fVar 0) (fC (.int 2))) aNil)) (fC (.int 5)))) (gNm 3))
      (sCons (sAsg (f2 (oI cMod fun i j => i % j) (fCallB (o1 oInt) (aCons (f2 (oI cPow fun i j => i ^ j.toNat) (fCallB (o1 oInt) (aCons (f2 oAdd (f2 oAdd (f2 oIx (fVar 0) (fC (.int 1))) (f2 (oI cMul fun i j => i * j) (f2 (oI cMul fun i j => i * j) (fC (.int c1)) (f2 oIx (fVar 0) (fC (.int 2)))) (f2 oIx (fVar 0) (fC (.int 2))))) (fC (.int c2))) aNil)) (fC (.int 3))) aNil)) (fVar 3)) (gNm 4))
      (sCons (sRet (f2 (oI cMod fun i j => i % j) (fCallB (o1 oInt) (aCons (f2 (oI cDiv fun i j => i / j) (f2 (oI cMul fun i j => i * j) (fVar 4) (f2 oAdd (f2 (oI cMod fun i j => i % j) (fCallB (o1 oInt) (aCons (fVar 4) aNil)) (fC (.int c3))) (f2 (oI cMul fun i j => i * j) (fC (.int c4)) (f2 oIx (fVar 0) (fC (.int 2)))))) (fC (.int c5))) aNil)) (fVar 1)))
      sNil)))))
/-- a pot: what is left of its own digits, its seed, how many were drawn without -/
structure Pot (S : Store) (p : Nat) (n : Nat) : Prop where
  at_ : ∃ a b c : Int, S[p]? = some (.lst [.int a, .int b, .int c]) ∧ 0 ≤ a ∧ Sm 1000 a ∧ 0 ≤ b ∧ Sm 61 b ∧ 0 ≤ c ∧ c ≤ n
theorem Sm.abs_lt {n : Nat} {i : Int} (h : 0 ≤ i) (g : Sm n i) : i < 2 ^ n := by
  unfold Sm at g
  have : ((i.natAbs : Nat) : Int) < ((2 ^ n : Nat) : Int) := Int.ofNat_lt.mpr g
  rw [Int.natAbs_of_nonneg h] at this
  simpa using this
theorem Sm.ediv {n : Nat} {i j : Int} (h : 0 ≤ i) (hj : 0 < j) (g : Sm n i) : Sm n (i / j) := by
  unfold Sm at *
  have h1 : 0 ≤ i / j := Int.ediv_nonneg h (Int.le_of_lt hj)
  have h2 : i / j ≤ i := Int.ediv_le_self j h
  omega
/-- the primes -/
theorem prime_at {c : Int} (h : 0 ≤ c) : ∃ m, L2.atI [D.int 2147483647, .int 2147483629, .int 2147483587, .int 2147483579, .int 2147483563] (c % 5) = some (.int m) ∧ 0 < m ∧ Sm 31 m := by
  have h1 : 0 ≤ c % 5 := Int.emod_nonneg c (by decide)
  have h2 : c % 5 < 5 := Int.emod_lt_of_pos c (by decide)
  obtain ⟨k, hk⟩ : ∃ k : Nat, c % 5 = k := ⟨(c % 5).toNat, (Int.toNat_of_nonneg h1).symm⟩
  rw [hk] at h2 ⊢
  rw [atI_nat]
  have h3 : k < 5 := by omega
  match k, h3 with
  | 0, _ => exact ⟨_, rfl, by decide, Sm.lit⟩
  | 1, _ => exact ⟨_, rfl, by decide, Sm.lit⟩
  | 2, _ => exact ⟨_, rfl, by decide, Sm.lit⟩
  | 3, _ => exact ⟨_, rfl, by decide, Sm.lit⟩
  | 4, _ => exact ⟨_, rfl, by decide, Sm.lit⟩
/-! ### stores that grow -/
@[simp] theorem get_new {S : Store} {x : MO} : (S ++ [x])[S.length]? = some x := by simp
theorem get_old {S T : Store} {q : Nat} (h : q < S.length) : (S ++ T)[q]? = S[q]? := List.getElem?_append_left h
/-- all places but p stand as they were -/
structure Ext (p : Nat) (S S' : Store) : Prop where
  le : S.length ≤ S'.length
  at_ : ∀ q, q < S.length → q ≠ p → S'[q]? = S[q]?
theorem Ext.refl {p : Nat} {S : Store} : Ext p S S := ⟨Nat.le_refl _, fun _ _ _ => rfl⟩
theorem Ext.trans {p : Nat} {S S1 S2 : Store} (h : Ext p S S1) (g : Ext p S1 S2) : Ext p S S2 := ⟨Nat.le_trans h.le g.le, fun q hq hp => (g.at_ q (Nat.lt_of_lt_of_le hq h.le) hp).trans (h.at_ q hq hp)⟩
theorem Ext.app {p : Nat} {S T : Store} : Ext p S (S ++ T) := ⟨by simp, fun q hq _ => get_old hq⟩
theorem Ext.set {p : Nat} {S : Store} {o : MO} : Ext p S (S.set p o) := ⟨by simp, fun q hq hp => by rw [List.getElem?_set_ne (Ne.symm hp)]⟩
theorem drop_self {S : Store} {d : D} : drop S.length d S = S := by
  unfold drop
  split
  · exact List.take_length
  · rfl
theorem drop_len {S : Store} {d : D} {n : Nat} (h : n ≤ S.length) : n ≤ (drop n d S).length := by
  unfold drop
  split
  · rw [List.length_take]; omega
  · exact h
theorem drop_get {S : Store} {d : D} {n q : Nat} (h : q < n) : (drop n d S)[q]? = S[q]? := by
  unfold drop
  split
  · rw [List.getElem?_take_of_lt h]
  · rfl
theorem Ext.drop {p : Nat} {S S' : Store} {d : D} (h : Ext p S S') : Ext p S (drop S.length d S') := ⟨drop_len h.le, fun q hq hp => (drop_get hq).trans (h.at_ q hq hp)⟩
theorem cf_rt {n m : Nat} {b : FS} {ds : List D} {S S' : Store} {d : D} (h : b (ds.map some ++ List.replicate (m - n) none) S = .ok (.rt d) S') (hn : Nat.beq ds.length n = true := by rfl) : cfOf n m b ds S = .ok d (MP.drop S.length d S') := by
  unfold cfOf
  rw [if_pos hn, h]
  rfl
theorem cf_nx {n m : Nat} {b : FS} {ds : List D} {S S' : Store} {ρ : Rho} (h : b (ds.map some ++ List.replicate (m - n) none) S = .ok (.nx ρ) S') (hn : Nat.beq ds.length n = true := by rfl) : cfOf n m b ds S = .ok .non (MP.drop S.length .non S') := by
  unfold cfOf
  rw [if_pos hn, h]
  rfl
theorem take_ok {c1 c2 c3 c4 c5 : Int} {S : Store} {p n : Nat} {u : Int} (h : Pot S p n) (hn : n ≤ 1000000) (hu : 0 < u) (hu2 : Sm 60 u) (k1 : 0 ≤ c1 ∧ Sm 60 c1) (k2 : 0 ≤ c2 ∧ Sm 60 c2) (k3 : 0 < c3 ∧ Sm 60 c3) (k4 : 0 ≤ c4 ∧ Sm 60 c4) (k5 : 0 < c5 ∧ Sm 60 c5) :
    ∃ d S', cfOf 2 5 (mTake c1 c2 c3 c4 c5) [.ref p, .int u] S = .ok (.int d) S' ∧ 0 ≤ d ∧ d < u ∧ Pot S' p (n + 1) ∧ Ext p S S' := by
  obtain ⟨a, b, c, hp, ha, sa, hb, sb, hc, hcn⟩ := h.at_
  have hlt : p < S.length := (List.getElem?_eq_some_iff.mp hp).1
  by_cases h0 : 0 < a
  · have d1 : cDiv a u = true := cDiv_sm hu (hu2.mono (by decide))
    have d2 : cMod a u = true := cMod_pos hu
    have e : cfOf 2 5 (mTake c1 c2 c3 c4 c5) [.ref p, .int u] S = .ok (.int (a % u)) (MP.drop S.length (.int (a % u)) (S.set p (.lst [.int (a / u), .int b, .int c]))) := by
      simp [cfOf, mTake, hp, h0, d1, d2, R.gc, endR]
    have x : Ext p S (S.set p (.lst [.int (a / u), .int b, .int c])) := .set
    refine ⟨_, _, e, Int.emod_nonneg a (Int.ne_of_gt hu), Int.emod_lt_of_pos a hu, ⟨a / u, b, c, ?_, Int.ediv_nonneg ha (Int.le_of_lt hu), sa.ediv ha hu, hb, sb, hc, by omega⟩, x.drop⟩
    rw [drop_get hlt]
    simp [hlt]
  · have hc1 : (0 : Int) ≤ c + 1 := by omega
    have sc : Sm 20 (c + 1) := Sm.of_lt hc1 (by omega)
    obtain ⟨m, hm, m0, sm⟩ := prime_at hc1
    have d1 : cMul c1 (c + 1) = true := k1.2.cMul sc (by decide)
    have s1 : Sm 80 (c1 * (c + 1)) := k1.2.mul sc
    have d2 : cMul (c1 * (c + 1)) (c + 1) = true := s1.cMul sc (by decide)
    have s2 : Sm 100 (c1 * (c + 1) * (c + 1)) := s1.mul sc
    have s3 : Sm 102 (b + c1 * (c + 1) * (c + 1) + c2) := ((sb.mono (by decide)).add s2).add ((k2.2).mono (by decide))
    have d3 : cPow (b + c1 * (c + 1) * (c + 1) + c2) 3 = true := s3.cPow (k := 3) (by decide)
    have hB := Int.emod_nonneg ((b + c1 * (c + 1) * (c + 1) + c2) ^ 3) (Int.ne_of_gt m0)
    have sB : Sm 31 ((b + c1 * (c + 1) * (c + 1) + c2) ^ 3 % m) := Sm.emod m0 sm
    generalize hBB : (b + c1 * (c + 1) * (c + 1) + c2) ^ 3 % m = B at hB sB
    have d4 : ∀ i, cMod i m = true := fun i => cMod_pos m0
    have d5 : cMod B c3 = true := cMod_pos k3.1
    have d6 : cMul c4 (c + 1) = true := k4.2.cMul sc (by decide)
    have s6 : Sm 81 (B % c3 + c4 * (c + 1)) := ((Sm.emod k3.1 k3.2).mono (by decide)).add (k4.2.mul sc)
    have d7 : cMul B (B % c3 + c4 * (c + 1)) = true := sB.cMul s6 (by decide)
    have d8 : cDiv (B * (B % c3 + c4 * (c + 1))) c5 = true := cDiv_sm k5.1 (k5.2.mono (by decide))
    have d9 : ∀ i, cMod i u = true := fun i => cMod_pos hu
    have d10 : cMod (c + 1) 5 = true := cMod_pos (by decide)
    have hsz : szOk 5 = true := by decide
    have q1 : (S.set p (.lst [.int a, .int b, .int (c + 1)]))[p]? = some (.lst [.int a, .int b, .int (c + 1)]) := by simp [hlt]
    have q2 : ∀ T : Store, (S.set p (.lst [.int a, .int b, .int (c + 1)]) ++ T)[p]? = some (.lst [.int a, .int b, .int (c + 1)]) := fun T => by rw [get_old (by simpa using hlt)]; exact q1
    have q3 : ∀ x : MO, (S.set p (.lst [.int a, .int b, .int (c + 1)]) ++ [x])[S.length]? = some x := fun x => by
      have e : S.length = (S.set p (.lst [.int a, .int b, .int (c + 1)])).length := by simp
      rw [e, get_new]
    have e : cfOf 2 5 (mTake c1 c2 c3 c4 c5) [.ref p, .int u] S = .ok (.int (B * (B % c3 + c4 * (c + 1)) / c5 % u)) (MP.drop S.length (.int (B * (B % c3 + c4 * (c + 1)) / c5 % u)) (S.set p (.lst [.int a, .int b, .int (c + 1)]) ++ [.lst [.int 2147483647, .int 2147483629, .int 2147483587, .int 2147483579, .int 2147483563]])) := by
      simp [cfOf, mTake, hp, h0, q1, q2, q3, -List.getElem?_set_self, d1, d2, d3, d4, d5, d6, d7, d8, d9, d10, hm, hBB, R.gc, endR, hsz]
    have x : Ext p S (S.set p (.lst [.int a, .int b, .int (c + 1)]) ++ [.lst [.int 2147483647, .int 2147483629, .int 2147483587, .int 2147483579, .int 2147483563]]) := Ext.set.trans .app
    refine ⟨_, _, e, Int.emod_nonneg _ (Int.ne_of_gt hu), Int.emod_lt_of_pos _ hu, ⟨a, b, c + 1, ?_, ha, sa, hb, sb, hc1, by omega⟩, x.drop⟩
    rw [drop_get hlt, q2]
end MP

namespace MP
open PySem

def mPotA (k1 k2 : Int) : FS := (sAsg (fIfE (fB (f2 oLt (fVar 1) (fCallB (o1 oLen) (aCons (fVar 0) aNil)))) (f2 oIx (fVar 0) (fVar 1)) (f2 oAdd (f2 oAdd (f2 (oI cMod fun i j => i % j) (fCallB (o1 oInt) (aCons (fCallB (o1 oSum) (aCons (fSl oSl (fVar 0) oNo (oPt (fC (.int 1)))) aNil)) aNil)) (fC (.int 1000003))) (f2 (oI cMul fun i j => i * j) (fC (.int k1)) (fVar 1))) (fC (.int k2)))) (gNm 2))
def mPotB (k3 k4 k5 : Int) : FS := (sCons (sAsg (f2 (oI cMul fun i j => i * j) (f2 (oI cMod fun i j => i % j) (fCallB (o1 oInt) (aCons (fCallB (o1 oAbs) (aCons (fVar 2) aNil)) aNil)) (f2 (oI cPow fun i j => i ^ j.toNat) (f2 (oI cPow fun i j => i ^ j.toNat) (fC (.int 10)) (fC (.int 60))) (fC (.int 5)))) (fCallB (o1 oInt) (aCons (f2 oGe (fCallB (o1 oAbs) (aCons (fVar 2) aNil)) (f2 (oI cPow fun i j => i ^ j.toNat) (fC (.int 10)) (fC (.int 18)))) aNil))) (gNm 3))
      (sCons (sAsg (f2 (oI cMod fun i j => i % j) (fCallB (o1 oInt) (aCons (fVar 2) aNil)) (fC (.int 2305843009213693951))) (gNm 4))
      (sCons (sRet (fLst (aCons (fVar 3) (aCons (f2 (oI cMod fun i j => i % j) (fCallB (o1 oInt) (aCons (f2 oAdd (f2 oAdd (f2 (oI cMul fun i j => i * j) (fVar 4) (fC (.int k3))) (f2 (oI cMul fun i j => i * j) (f2 (oI cMul fun i j => i * j) (fC (.int k4)) (fVar 1)) (fVar 1))) (fC (.int k5))) aNil)) (fC (.int 2305843009213693921))) (aCons (fC (.int 0)) aNil)))))
      sNil)))
def mPot (k1 k2 k3 k4 k5 : Int) : FS := sCons (mPotA k1 k2) (mPotB k3 k4 k5)
/-- all places stand as they were -/
structure Gr (S S' : Store) : Prop where
  le : S.length ≤ S'.length
  at_ : ∀ q, q < S.length → S'[q]? = S[q]?
theorem Gr.ext {p : Nat} {S S' : Store} (h : Gr S S') : Ext p S S' := ⟨h.le, fun q hq _ => h.at_ q hq⟩
theorem Gr.refl {S : Store} : Gr S S := ⟨Nat.le_refl _, fun _ _ => rfl⟩
theorem Gr.trans {S S1 S2 : Store} (h : Gr S S1) (g : Gr S1 S2) : Gr S S2 := ⟨Nat.le_trans h.le g.le, fun q hq => (g.at_ q (Nat.lt_of_lt_of_le hq h.le)).trans (h.at_ q hq)⟩
theorem Gr.app {S T : Store} : Gr S (S ++ T) := ⟨by simp, fun q hq => get_old hq⟩
theorem Gr.drop {S S' : Store} {d : D} (h : Gr S S') : Gr S (drop S.length d S') := ⟨drop_len h.le, fun q hq => (drop_get hq).trans (h.at_ q hq)⟩
theorem drop_ref {S : Store} {n p : Nat} (h : n ≤ p) : MP.drop n (.ref p) S = S := by
  unfold MP.drop
  rw [if_neg]
  simp [D.und]
  intro h'
  omega
/-- the cell's part of the pot -/
def potOf (cell k3 k4 k5 : Int) (place : Int) : List D :=
  [.int ((if cell < 0 then -cell else cell) % (10 ^ 60) ^ 5 * (if decide (10 ^ 18 ≤ (if cell < 0 then -cell else cell)) = true then 1 else 0)), .int ((cell % 2305843009213693951 * k3 + k4 * place * place + k5) % 2305843009213693921), .int 0]
theorem potOf_ok {cell k3 k4 k5 place : Int} {S : Store} : Pot (S ++ [.lst (potOf cell k3 k4 k5 place)]) S.length 0 := by
  have key : ∀ (A M : Int) (b : Bool), 0 < M → Sm 1000 M → 0 ≤ A % M * (if b = true then 1 else 0) ∧ Sm 1000 (A % M * (if b = true then 1 else 0)) := fun A M b h0 sM => by
    have h1 := Int.emod_nonneg A (Int.ne_of_gt h0)
    have h2 := Sm.emod (i := A) h0 sM
    cases b with
    | true => rw [if_pos rfl, Int.mul_one]; exact ⟨h1, h2⟩
    | false => rw [if_neg Bool.false_ne_true, Int.mul_zero]; exact ⟨Int.le_refl _, Nat.pow_pos (by decide)⟩
  have k := key (if cell < 0 then -cell else cell) ((10 ^ 60) ^ 5) (decide (10 ^ 18 ≤ (if cell < 0 then -cell else cell))) (by decide) (Sm.lit (by decide +kernel))
  exact ⟨⟨_, _, _, get_new, k.1, k.2, Int.emod_nonneg _ (by decide), Sm.emod (by decide) (Sm.lit (by decide)), by decide, by decide⟩⟩
theorem abs_sm {n : Nat} {i : Int} (h : Sm n i) : Sm n (if i < 0 then -i else i) := by
  unfold Sm at *
  split <;> simpa using h
theorem pot_ok {k1 k2 k3 k4 k5 : Int} {S : Store} {ns : List Int} {place : Nat} (hns : ∀ z ∈ ns, Sm 1048576 z) (hp : place < 1000) (q1 : Sm 60 k1) (q2 : Sm 60 k2) (q3 : Sm 60 k3) (q4 : Sm 60 k4) (q5 : Sm 60 k5) :
    ∃ p S', cfOf 2 5 (mPot k1 k2 k3 k4 k5) [.rl (ns.map D.int), .int place] S = .ok (.ref p) S' ∧ S.length ≤ p ∧ p < S'.length ∧ Pot S' p 0 ∧ Gr S S' := by
  have sp : Sm 20 (place : Int) := Sm.of_nat (Nat.lt_trans hp (by decide))
  have hlen : szOk 3 = true := by decide
  have e1 : cPow 10 60 = true := by decide +kernel
  have e2 : cPow (10 ^ 60) 5 = true := by decide +kernel
  have e3 : cPow 10 18 = true := by decide +kernel
  simp only [Int.reducePow] at e2
  -- what comes behind the cell
  have fin : ∀ (cell : Int) (T : Store), Sm 1048577 cell → mPotB k3 k4 k5 [some (.rl (ns.map D.int)), some (.int place), some (.int cell), none, none] T = .ok (.rt (.ref T.length)) (T ++ [.lst (potOf cell k3 k4 k5 place)]) := by
    intro cell T sc
    have sa := abs_sm sc
    have d1 : ∀ i : Int, cMod i ((10 ^ 60) ^ 5) = true := fun i => cMod_pos (by decide)
    simp only [Int.reducePow] at d1
    have s1 : Sm 1000 ((if cell < 0 then -cell else cell) % (10 ^ 60) ^ 5) := Sm.emod (by decide) (Sm.lit (by decide +kernel))
    have d2 : ∀ (P : Prop) [Decidable P], cMul ((if cell < 0 then -cell else cell) % (10 ^ 60) ^ 5) (if P then 1 else 0) = true := fun P _ => s1.cMul (m := 5) (by split <;> exact Sm.lit (by decide)) (by decide)
    simp only [Int.reducePow] at d2
    have d3 : ∀ i : Int, cMod i 2305843009213693951 = true := fun i => cMod_pos (by decide)
    have d4 : ∀ i : Int, cMod i 2305843009213693921 = true := fun i => cMod_pos (by decide)
    have s2 : Sm 61 (cell % 2305843009213693951) := Sm.emod (by decide) (Sm.lit (by decide))
    have d5 := s2.cMul q3 (by decide)
    have d6 := q4.cMul sp (by decide)
    have d7 := (q4.mul sp).cMul sp (by decide)
    simp [mPotB, potOf, e1, e2, e3, d1, d2, d3, d4, d5, d6, d7, hlen]
  have run : ∀ (cell : Int) (T : Store), Sm 1048577 cell → Gr S T → mPotA k1 k2 [some (.rl (ns.map D.int)), some (.int place), none, none, none] S = .ok (.nx [some (.rl (ns.map D.int)), some (.int place), some (.int cell), none, none]) T →
      ∃ p S', cfOf 2 5 (mPot k1 k2 k3 k4 k5) [.rl (ns.map D.int), .int place] S = .ok (.ref p) S' ∧ S.length ≤ p ∧ p < S'.length ∧ Pot S' p 0 ∧ Gr S S' := by
    intro cell T sc g hA
    refine ⟨T.length, T ++ [.lst (potOf cell k3 k4 k5 place)], ?_, g.le, by simp, potOf_ok, g.trans .app⟩
    have hb : mPot k1 k2 k3 k4 k5 [some (.rl (ns.map D.int)), some (.int place), none, none, none] S = .ok (.rt (.ref T.length)) (T ++ [.lst (potOf cell k3 k4 k5 place)]) := by
      show (mPotA k1 k2 _ S).bind _ = _
      rw [hA]
      exact fin cell T sc
    rw [cf_rt (n := 2) (m := 5) hb, drop_ref g.le]
  by_cases hlt : place < ns.length
  · have hz : ns[place]? = some ns[place] := by simp [hlt]
    have sz : Sm 1048577 ns[place] := (hns _ (List.getElem_mem hlt)).mono (by decide)
    refine run ns[place] S sz .refl ?_
    simp [mPotA, hlt]
  · have hh : ∃ l : List Int, cutD (ns.map D.int) none (some 1) = l.map D.int := ⟨cutD ns none (some 1), by unfold cutD; rw [List.length_map, List.map_take, List.map_drop]⟩
    obtain ⟨l, hl⟩ := hh
    have hi : ∀ l : List Int, intsOf (l.map D.int) = some l := fun l => by
      induction l with
      | nil => rfl
      | cons x l ih => simp [intsOf, ih]
    have d1 : ∀ i : Int, cMod i 1000003 = true := fun i => cMod_pos (by decide)
    have d2 := q1.cMul sp (by decide)
    have s1 : Sm 82 (l.sum % 1000003 + k1 * place + k2) := (((Sm.emod (by decide) (Sm.lit (by decide) : Sm 80 1000003)).add (q1.mul sp))).add (q2.mono (by decide))
    refine run (l.sum % 1000003 + k1 * place + k2) (S ++ [.lst (l.map D.int)]) (s1.mono (by decide)) .app ?_
    simp [mPotA, hlt, hl, hi, d1, d2]
theorem cells_ok {S : Store} {ns : List Int} {m : Nat} (hm : 0 < m) (hm2 : m < 1000) (hns : ns.length ≤ 63) :
    ∃ k : Nat, k ≤ m ∧ cfOf 2 2 (sCons (sRet (fLstRg1 (fCallB (o2 oMax2) (aCons (fC (.int 1)) (aCons (fCallB (o2 oMin2) (aCons (fVar 1) (aCons (fCallB (o1 oLen) (aCons (fVar 0) aNil)) aNil))) aNil)))))
      sNil) [.rl (ns.map D.int), .int m] S = .ok (.ref S.length) (S ++ [.lst ((List.range k).map fun i => D.int (i : Nat))]) := by
  refine ⟨(if (if (ns.length : Int) < m then (ns.length : Int) else m) > 1 then (if (ns.length : Int) < m then (ns.length : Int) else m) else 1).toNat, by split <;> split <;> omega, ?_⟩
  have h1 : ∀ i : Int, 0 ≤ i → i < 1000 → rgOk 0 i = true := fun i h0 h1 => by
    unfold rgOk ok62
    simp only [Bool.and_eq_true, Nat.blt_eq]
    exact ⟨⟨by decide, by omega⟩, Nat.ble_eq_true_of_le (by show _ ≤ 1000000; omega)⟩
  have h2 : ∀ i : Int, 0 ≤ i → i < 1000 → rgNew 0 i S = .ok (.ref S.length) (S ++ [.lst (rgD 0 i)]) := fun i h0 h3 => by
    unfold rgNew
    rw [if_pos (h1 i h0 h3)]
  have h3 := h2 (if (if (ns.length : Int) < m then (ns.length : Int) else m) > 1 then (if (ns.length : Int) < m then (ns.length : Int) else m) else 1) (by split <;> split <;> omega) (by split <;> split <;> omega)
  have e : (sCons (sRet (fLstRg1 (fCallB (o2 oMax2) (aCons (fC (.int 1)) (aCons (fCallB (o2 oMin2) (aCons (fVar 1) (aCons (fCallB (o1 oLen) (aCons (fVar 0) aNil)) aNil))) aNil)))))
      sNil) [some (.rl (ns.map D.int)), some (.int m)] S = .ok (.rt (.ref S.length)) (S ++ [.lst (rgD 0 (if (if (ns.length : Int) < m then (ns.length : Int) else m) > 1 then (if (ns.length : Int) < m then (ns.length : Int) else m) else 1))]) := by
    simp only [sCons_ap, sRet_ap, fLstRg1_ap, fCallB_ap, aCons_ap, aNil_ap, fC_ap, fVar_ap, R.bind_ok, R.of_some, oMax_int, oMin_int, oLen_rl, List.getElem?_cons_zero, List.getElem?_cons_succ, List.length_map]
    rw [h3]
    rfl
  rw [cf_rt (n := 2) (m := 2) e, drop_ref (Nat.le_refl _)]
  unfold rgD
  simp
end MP

namespace MP
open PySem

theorem blsOf_rep (k : Nat) : blsOf (List.replicate k (D.bl true)) = some (List.replicate k true) := by
  induction k with
  | zero => rfl
  | succ k ih => simp [List.replicate_succ, blsOf, ih]
theorem intBits_sm {z : Int} (h : Builtin.Int.intBits z ≤ 1048576) : Sm 1048576 z := by
  unfold Sm
  unfold Builtin.Int.intBits at h
  by_cases h0 : z.natAbs = 0
  · rw [h0]; exact Nat.pow_pos (by decide)
  · refine (Nat.log2_lt h0).mp ?_
    split at h
    · rename_i e
      exact absurd (by simpa using e) (by omega)
    · omega
/-- the law's own def, from what it asks of each pot -/
theorem law_top {cCells cPot cRight : CF} {m : Nat} {k1 k2 k3 k4 k5 : Int} (hm : 0 < m) (hm2 : m < 1000)
    (eC : cCells = cfOf 2 2 (sCons (sRet (fLstRg1 (fCallB (o2 oMax2) (aCons (fC (.int 1)) (aCons (fCallB (o2 oMin2) (aCons (fVar 1) (aCons (fCallB (o1 oLen) (aCons (fVar 0) aNil)) aNil))) aNil))))) sNil))
    (eP : cPot = cfOf 2 5 (mPot k1 k2 k3 k4 k5)) (q1 : Sm 60 k1) (q2 : Sm 60 k2) (q3 : Sm 60 k3) (q4 : Sm 60 k4) (q5 : Sm 60 k5)
    (hR : ∀ S p, Pot S p 0 → ∃ S', cRight [.ref p] S = .ok (.bl true) S' ∧ Ext p S S') (ns : List Int) (hns : ns.length ≤ 63) (hb : ∀ z ∈ ns, Builtin.Int.intBits z ≤ 1048576) :
    ∃ S, cfOf 1 2 (sCons (sRet (fCallB (o1 oAll) (aCons (fComp (fIter (fCall cCells (aCons (fVar 0) (aCons (fC (.int m)) aNil)))) (cNm 1) (fC (.bl true)) (fCall cRight (aCons (fCall cPot (aCons (fVar 0) (aCons (fVar 1) aNil))) aNil)) [1]) aNil)))
      sNil) [.rl (ns.map D.int)] [] = .ok (.bl true) S := by
  obtain ⟨k, hk, hc⟩ := cells_ok (S := []) hm hm2 hns
  rw [← eC] at hc
  have hcells : (([] : Store) ++ [.lst ((List.range k).map fun i => D.int (i : Nat))])[0]? = some (.lst ((List.range k).map fun i => D.int (i : Nat))) := rfl
  generalize hS1 : (([] : Store) ++ [.lst ((List.range k).map fun i => D.int (i : Nat))]) = S1 at hc hcells
  let item : Store → Nat → Option (Option D) := fun (S : Store) (i : Nat) => match S[0]? with | some (MO.lst ys) => some ys[i]? | _ => none
  have hl : ((List.range k).map fun i => D.int (i : Nat)).length = k := by simp
  obtain ⟨es, S2, hv, ⟨h0, hes⟩⟩ := compV_inv (item := item) (tg := cNm 1) (flt := fC (.bl true)) (elt := fCall cRight (aCons (fCall cPot (aCons (fVar 0) (aCons (fVar 1) aNil))) aNil)) (n := k) (ρ := [some (.rl (ns.map D.int)), none])
    (fun i S ds => S[0]? = some (.lst ((List.range k).map fun i => D.int (i : Nat))) ∧ ds = List.replicate i (.bl true))
    (fun i S ds hi ⟨h0, hds⟩ => by
      obtain ⟨p, S', h1, h2, h3, h4, h5⟩ := pot_ok (S := S) (place := i) (fun z hz => intBits_sm (hb z hz)) (by omega) q1 q2 q3 q4 q5
      rw [← eP] at h1
      obtain ⟨S'', h6, h7⟩ := hR S' p h4
      have hlt : 0 < S.length := (List.getElem?_eq_some_iff.mp h0).1
      refine ⟨.int (i : Nat), [some (.rl (ns.map D.int)), some (.int (i : Nat))], S, .bl true, S'', ?_, rfl, rfl, ?_, ?_, ?_⟩
      · show (match S[0]? with | some (MO.lst ys) => some ys[i]? | _ => none) = _
        rw [h0]
        simp [hi]
      · simp [h1, h6]
      · rw [h7.at_ 0 (by omega) (by omega), h5.at_ 0 hlt]
        exact h0
      · rw [hds, List.replicate_succ'])
    (fun S ds ⟨h0, _⟩ => by
      show (match S[0]? with | some (MO.lst ys) => some ys[k]? | _ => none) = _
      rw [h0]
      simp) k 0 S1 [] (by omega) ⟨hcells, rfl⟩
  have hes' : es = List.replicate k (.bl true) := by simpa using hes
  have h8 : o1 oAll [.ref S2.length] (S2 ++ [.lst es]) = some (.bl true, S2 ++ [.lst es]) := by
    show oAll (.ref S2.length) (S2 ++ [.lst es]) = _
    unfold oAll
    rw [lstOf_ref, get_new, hes']
    show ((some _).bind blsOf).bind _ = _
    rw [Option.bind_some, blsOf_rep, Option.bind_some]
    simp
  have hsrc : srcOf S1 (.ref 0) = some ⟨[.ref 0], item, k⟩ := by
    show (match S1[0]? with | some (MO.lst xs) => some (⟨[.ref 0], fun (S : Store) (i : Nat) => match S[0]? with | some (MO.lst ys) => some ys[i]? | _ => none, xs.length⟩ : Src) | _ => none) = _
    rw [hcells]
    show some (⟨[.ref 0], item, ((List.range k).map fun i => D.int (i : Nat)).length⟩ : Src) = _
    rw [hl]
  have hw : wipeR [some (.rl (ns.map D.int)), none] [1] = [some (.rl (ns.map D.int)), none] := rfl
  have hkk : Nat.blt k 16777216 = true := by rw [Nat.blt_eq]; omega
  refine ⟨_, cf_rt (n := 1) (m := 2) (d := .bl true) (S' := S2 ++ [.lst es]) ?_⟩
  show (sCons _ sNil) [some (.rl (ns.map D.int)), none] [] = _
  have hF : fComp (fIter (fCall cCells (aCons (fVar 0) (aCons (fC (.int m)) aNil)))) (cNm 1) (fC (.bl true)) (fCall cRight (aCons (fCall cPot (aCons (fVar 0) (aCons (fVar 1) aNil))) aNil)) [1] [some (.rl (ns.map D.int)), none] [] = .ok (.ref S2.length) (S2 ++ [.lst es]) := by
    unfold fComp
    have hI : fIter (fCall cCells (aCons (fVar 0) (aCons (fC (.int m)) aNil))) [some (.rl (ns.map D.int)), none] [] = .ok ⟨[.ref 0], item, k⟩ S1 := by
      simp only [fIter_ap, fCall_ap, aCons_ap, aNil_ap, fVar_ap, fC_ap, List.getElem?_cons_zero, R.bind_ok, hc]
      show (match srcOf S1 (.ref 0) with | some s => R.ok s S1 | none => .fail) = _
      rw [hsrc]
    rw [hI, R.bind_ok]
    simp only [hkk, if_true, hw, hv, noX_ap]
  simp only [sCons_ap, sRet_ap, fCallB_ap, aCons_ap, aNil_ap, hF, R.bind_ok, h8, R.of_some, withE_ok, then_rt]
end MP

namespace MP
open PySem

/-! ### what repr shows, whatever the store -/
def Shw (d : D) : Prop := ∃ t, ∀ S, oRepr d S = some (.str t, S)
theorem sEq_self (t : Str) : sEq t t = true := by rw [sEq_eq]; simp
theorem Sm.log {n : Nat} {i : Int} (h : Sm n i) (hn : 0 < n) : i.natAbs.log2 < n := by
  by_cases h0 : i.natAbs = 0
  · rw [h0]; simpa using hn
  · exact (Nat.log2_lt h0).mpr h
theorem shw_int {n : Nat} {i : Int} (h : Sm n i) (hn : 0 < n) (hn2 : n ≤ 12900) : Shw (.int i) := by
  refine ⟨toString i, fun S => ?_⟩
  have hl := h.log hn
  have e : (Str.ofString (toString i)).cps.toList.length ≤ n + 1 := by
    have e1 : (Str.ofString (toString i)).cps.toList.length = (Str.ofString (toString i)).length := by simp [Str.length]
    rw [e1, ofString_length]
    exact int_text_length_le hn hl
  show (if shOk (.int i) && Nat.ble (PyData.int i).depth 64 then (let t := (PyData.int i).shown; if Nat.ble t.cps.toList.length lim then some (D.str t, S) else none) else none) = _
  have h1 : shOk (.int i) = true := by simp only [shOk, Nat.blt_eq]; omega
  have h2 : (PyData.int i).depth = 0 := by simp only [PyData.depth]
  have h3 : (PyData.int i).shown = (toString i : String) := by simp only [PyData.shown]
  rw [h1, h2, h3, if_pos (by decide)]
  dsimp only
  rw [if_pos (Nat.ble_eq_true_of_le (by show _ ≤ 1000000; omega))]
theorem shw_non : Shw .non := ⟨"None", fun S => by
  show (if shOk .none && Nat.ble PyData.none.depth 64 then (let t := PyData.none.shown; if Nat.ble t.cps.toList.length lim then some (D.str t, S) else none) else none) = _
  rw [if_pos (by decide +kernel)]
  dsimp only
  rw [if_pos (by decide +kernel)]
  simp only [PyData.shown]⟩
theorem shw_pair {n : Nat} {i j : Int} (h : Sm n i) (g : Sm n j) (hn : 0 < n) (hn2 : n ≤ 12900) : Shw (.tup [.int i, .int j]) := by
  refine ⟨tupleText [(toString i : String), (toString j : String)], fun S => ?_⟩
  have e : ∀ k : Int, Sm n k → (Str.ofString (toString k)).length ≤ n + 1 := fun k hk => by
    rw [ofString_length]
    exact int_text_length_le hn (hk.log hn)
  have h1 : shOk (.tuple [.int i, .int j]) = true := by
    have a := h.log hn
    have b := g.log hn
    simp only [shOk, shOks, Bool.and_eq_true, Nat.blt_eq]
    exact ⟨by omega, by omega, trivial⟩
  have h2 : (PyData.tuple [.int i, .int j]).depth ≤ 64 := by simp only [PyData.depth, PyData.depthAll]; decide
  have h3 : (PyData.tuple [.int i, .int j]).shown = tupleText [(toString i : String), (toString j : String)] := by simp only [PyData.shown, PyData.shownAll]
  have h4 : (tupleText [Str.ofString (toString i), Str.ofString (toString j)]).length ≤ 2 * n + 8 := by
    have a := fmt_text [Str.ofString (toString i), Str.ofString (toString j)]
    have b := e i h
    have c := e j g
    rw [piled_cons, piled_cons, piled_nil] at a
    omega
  show (if shOk (.tuple [.int i, .int j]) && Nat.ble (PyData.tuple [.int i, .int j]).depth 64 then (let t := (PyData.tuple [.int i, .int j]).shown; if Nat.ble t.cps.toList.length lim then some (D.str t, S) else none) else none) = _
  rw [h1, h3, if_pos (by rw [Bool.true_and]; exact Nat.ble_eq_true_of_le h2)]
  dsimp only
  have e1 : (tupleText [Str.ofString (toString i), Str.ofString (toString j)]).cps.toList.length = (tupleText [Str.ofString (toString i), Str.ofString (toString j)]).length := by simp [Str.length]
  rw [if_pos (Nat.ble_eq_true_of_le (by rw [e1]; show _ ≤ 1000000; omega))]
/-- repr(x) != repr(y) of the same -/
theorem repr_ne {d : D} (h : Shw d) {S : Store} : ∃ t, oRepr d S = some (.str t, S) ∧ ∀ S', oRepr d S' = some (.str t, S') := by
  obtain ⟨t, ht⟩ := h
  exact ⟨t, ht S, ht⟩
end MP

namespace MP
open PySem

/-- statement by statement -/
theorem seq_ok {s t : FS} {ρ ρ1 : Rho} {S S1 S' : Store} {fl : Fl} (h : s ρ S = .ok (.nx ρ1) S1) (h' : t ρ1 S1 = .ok fl S') : sCons s t ρ S = .ok fl S' := by
  rw [sCons_ap, h]
  exact h'
/-! ### loops over values -/
def itL (r : Nat) : Store → Nat → Option (Option D) := fun S i => match S[r]? with | some (.lst ys) => some ys[i]? | _ => none
theorem srcOf_ref {S : Store} {n : Nat} {xs : List D} (h : S[n]? = some (.lst xs)) : srcOf S (.ref n) = some ⟨[.ref n], itL n, xs.length⟩ := by
  show (match S[n]? with | some (MO.lst xs) => some (⟨[.ref n], itL n, xs.length⟩ : Src) | _ => none) = _
  rw [h]
theorem for_lst {g : FT} {b : FS} {r : Nat} {xs : List D} (I : Nat → Rho → Store → Prop) (hr : ∀ i ρ S, I i ρ S → S[r]? = some (.lst xs))
    (hi : ∀ i x ρ S, xs[i]? = some x → I i ρ S → ∃ ρ1 S1 fl ρ2 S2, g x ρ S = .ok ρ1 S1 ∧ b ρ1 S1 = .ok fl S2 ∧ (fl = .nx ρ2 ∨ fl = .ct ρ2) ∧ I (i + 1) ρ2 S2) {ρ : Rho} {S : Store} (h : I 0 ρ S) :
    ∃ ρ' S', forL (itL r) g b (xs.length + 1) 0 ρ S = .ok (.nx ρ') S' ∧ I xs.length ρ' S' :=
  forL_inv I (fun i ρ S hin h => let ⟨ρ1, S1, fl, ρ2, S2, h1, h2, h3, h4⟩ := hi i xs[i] ρ S (by simp [hin]) h; ⟨xs[i], ρ1, S1, fl, ρ2, S2, by simp [itL, hr i ρ S h, hin], h1, h2, h3, h4⟩) (fun ρ S h => by simp [itL, hr _ ρ S h]) xs.length 0 ρ S (by omega) h
@[simp] theorem srcOf_tup {S : Store} {xs : List D} : srcOf S (.tup xs) = some ⟨[.tup xs], fun _ i => some xs[i]?, xs.length⟩ := rfl
theorem for_tup {g : FT} {b : FS} {xs : List D} (I : Nat → Rho → Store → Prop)
    (hi : ∀ i x ρ S, xs[i]? = some x → I i ρ S → ∃ ρ1 S1 fl ρ2 S2, g x ρ S = .ok ρ1 S1 ∧ b ρ1 S1 = .ok fl S2 ∧ (fl = .nx ρ2 ∨ fl = .ct ρ2) ∧ I (i + 1) ρ2 S2) {ρ : Rho} {S : Store} (h : I 0 ρ S) :
    ∃ ρ' S', forL (fun _ i => some xs[i]?) g b (xs.length + 1) 0 ρ S = .ok (.nx ρ') S' ∧ I xs.length ρ' S' :=
  forL_inv I (fun i ρ S hin h => let ⟨ρ1, S1, fl, ρ2, S2, h1, h2, h3, h4⟩ := hi i xs[i] ρ S (by simp [hin]) h; ⟨xs[i], ρ1, S1, fl, ρ2, S2, by simp [hin], h1, h2, h3, h4⟩) (fun ρ S h => by simp) xs.length 0 ρ S (by omega) h
end MP

namespace Lw
open PySem L2 PySem.Spec PyProof.Rows MP
/-! ### the text by places -/
def top (i : Nat) : Stmt := PySem.Challenge.pw_runroots_k51_whole_pairs_of_doubling_row.main.body.getD i (.Pass ⟨0, 0, 0, 0⟩)
def z0 : Str := ⟨#[49]⟩
theorem z0_eq : ("1" : Str) = z0 := by decide +kernel
/-- what the top has written -/
structure Tx (K : PySem.W.Frag) (mg : Str → Option Value) : Prop where
  nd : NoDig K
  b_abs : mg "abs" = none
  b_all : mg "all" = none
  b_bool : mg "bool" = none
  b_int : mg "int" = none
  b_isinstance : mg "isinstance" = none
  b_len : mg "len" = none
  b_list : mg "list" = none
  b_max : mg "max" = none
  b_min : mg "min" = none
  b_range : mg "range" = none
  b_repr : mg "repr" = none
  b_sum : mg "sum" = none
  b_tuple : mg "tuple" = none
  g_LEAST_STEP : ∃ t, mg "LEAST_STEP" = some (.int 2 t)
  g_MOST_INDEX : ∃ t, mg "MOST_INDEX" = some (.int 200 t)
  g_MOST_STEP : ∃ t, mg "MOST_STEP" = some (.int 20 t)
  g_PAIR : ∃ t, mg "PAIR" = some (.int 2 t)
  d__law_are_great_right : ∃ f fd, DefAt K mg "_law_are_great_right" "_law_are_great_right" (top 33) ["pot", "step", "pairs"] f fd
  d__law_are_solved : ∃ f fd, DefAt K mg "_law_are_solved" "_law_are_solved" (top 32) ["step", "upto"] f fd
  d__law_cells : ∃ f fd, DefAt K mg "_law_cells" "_law_cells" (top 28) ["script", "limit"] f fd
  d__law_pairs : ∃ f fd, DefAt K mg "_law_pairs" "_law_pairs" (top 30) ["step", "many"] f fd
  d__law_pot : ∃ f fd, DefAt K mg "_law_pot" "_law_pot" (top 26) ["script", "place"] f fd
  d__law_raised : ∃ f fd, DefAt K mg "_law_raised" "_law_raised" (top 29) ["base", "many"] f fd
  d__law_right : ∃ f fd, DefAt K mg "_law_right" "_law_right" (top 34) ["pot"] f fd
  d__law_square_root : ∃ f fd, DefAt K mg "_law_square_root" "_law_square_root" (top 31) ["number"] f fd
  d__law_take : ∃ f fd, DefAt K mg "_law_take" "_law_take" (top 27) ["pot", "upto"] f fd
  d_check_index : ∃ f fd, DefAt K mg "check_index" "check_index" (top 16) ["index", "low"] f fd
  d_check_pair : ∃ f fd, DefAt K mg "check_pair" "check_pair" (top 22) ["step", "value"] f fd
  d_check_step : ∃ f fd, DefAt K mg "check_step" "check_step" (top 15) ["step"] f fd
  d_doubled : ∃ f fd, DefAt K mg "doubled" "doubled" (top 23) ["step", "pair"] f fd
  d_index_of : ∃ f fd, DefAt K mg "index_of" "index_of" (top 21) ["step", "x", "y"] f fd
  d_is_integer : ∃ f fd, DefAt K mg "is_integer" "is_integer" (top 8) ["value", "low", "high"] f fd
  d_is_natural : ∃ f fd, DefAt K mg "is_natural" "is_natural" (top 9) ["value"] f fd
  d_is_pair : ∃ f fd, DefAt K mg "is_pair" "is_pair" (top 19) ["step", "x", "y"] f fd
  d_is_tuple : ∃ f fd, DefAt K mg "is_tuple" "is_tuple" (top 10) ["value", "least", "most"] f fd
  d_is_whole : ∃ f fd, DefAt K mg "is_whole" "is_whole" (top 7) ["value"] f fd
  d_law : ∃ f fd, DefAt K mg "law" "law" (top 35) ["script"] f fd
  d_number_of : ∃ f fd, DefAt K mg "number_of" "number_of" (top 20) ["step", "x", "y"] f fd
  d_pair_at : ∃ f fd, DefAt K mg "pair_at" "pair_at" (top 17) ["step", "index"] f fd
  d_pell : ∃ f fd, DefAt K mg "pell" "pell" (top 18) ["step", "index"] f fd
  d_summed : ∃ f fd, DefAt K mg "summed" "summed" (top 24) ["step", "one", "other"] f fd
theorem b_abs : bootBuiltins "abs" = some (.builtin "abs") := by decide +kernel
theorem b_all : bootBuiltins "all" = some (.builtin "all") := by decide +kernel
theorem b_int : bootBuiltins "int" = some (.type "int") := by decide +kernel
theorem b_len : bootBuiltins "len" = some (.builtin "len") := by decide +kernel
theorem b_list : bootBuiltins "list" = some (.type "list") := by decide +kernel
theorem b_repr : bootBuiltins "repr" = some (.builtin "repr") := by decide +kernel
theorem b_sum : bootBuiltins "sum" = some (.builtin "sum") := by decide +kernel
theorem b_tuple : bootBuiltins "tuple" = some (.type "tuple") := by decide +kernel
/-- _law_cells -/
def m__law_cells_28 : FS :=
    (sCons (sRet (fLstRg1 (fCallB (o2 oMax2) (aCons (fC (.int 1)) (aCons (fCallB (o2 oMin2) (aCons (fVar 1) (aCons (fCallB (o1 oLen) (aCons (fVar 0) aNil)) aNil))) aNil)))))
      sNil)
def c__law_cells_28 : CF := cfOf 2 2 m__law_cells_28
theorem s__law_cells_28 : FnScope ["script", "limit"] ["script", "limit"] (defScope (top 28)) := ⟨rfl, rfl, rfl, by decide +kernel, rfl, by decide +kernel, by decide +kernel⟩
/-- _law_pot -/
def m__law_pot_26 : FS :=
    (sCons (sAsg (fIfE (fB (f2 oLt (fVar 1) (fCallB (o1 oLen) (aCons (fVar 0) aNil)))) (f2 oIx (fVar 0) (fVar 1)) (f2 oAdd (f2 oAdd (f2 (oI cMod fun i j => i % j) (fCallB (o1 oInt) (aCons (fCallB (o1 oSum) (aCons (fSl oSl (fVar 0) oNo (oPt (fC (.int 1)))) aNil)) aNil)) (fC (.int 1000003))) (f2 (oI cMul fun i j => i * j) (fC (.int 1667)) (fVar 1))) (fC (.int 1625)))) (gNm 2))
      (sCons (sAsg (f2 (oI cMul fun i j => i * j) (f2 (oI cMod fun i j => i % j) (fCallB (o1 oInt) (aCons (fCallB (o1 oAbs) (aCons (fVar 2) aNil)) aNil)) (f2 (oI cPow fun i j => i ^ j.toNat) (f2 (oI cPow fun i j => i ^ j.toNat) (fC (.int 10)) (fC (.int 60))) (fC (.int 5)))) (fCallB (o1 oInt) (aCons (f2 oGe (fCallB (o1 oAbs) (aCons (fVar 2) aNil)) (f2 (oI cPow fun i j => i ^ j.toNat) (fC (.int 10)) (fC (.int 18)))) aNil))) (gNm 3))
      (sCons (sAsg (f2 (oI cMod fun i j => i % j) (fCallB (o1 oInt) (aCons (fVar 2) aNil)) (fC (.int 2305843009213693951))) (gNm 4))
      (sCons (sRet (fLst (aCons (fVar 3) (aCons (f2 (oI cMod fun i j => i % j) (fCallB (o1 oInt) (aCons (f2 oAdd (f2 oAdd (f2 (oI cMul fun i j => i * j) (fVar 4) (fC (.int 87239))) (f2 (oI cMul fun i j => i * j) (f2 (oI cMul fun i j => i * j) (fC (.int 10513)) (fVar 1)) (fVar 1))) (fC (.int 753))) aNil)) (fC (.int 2305843009213693921))) (aCons (fC (.int 0)) aNil)))))
      sNil))))
def c__law_pot_26 : CF := cfOf 2 5 m__law_pot_26
theorem s__law_pot_26 : FnScope ["script", "place", "cell", "own", "small"] ["script", "place"] (defScope (top 26)) := ⟨rfl, rfl, rfl, by decide +kernel, rfl, by decide +kernel, by decide +kernel⟩
/-- _law_take -/
def m__law_take_27 : FS :=
    (sCons (sIf (fB (f2 oGt (f2 oIx (fVar 0) (fC (.int 0))) (fC (.int 0)))) (sCons (sAsg (f2 (oI cMod fun i j => i % j) (fCallB (o1 oInt) (aCons (f2 oIx (fVar 0) (fC (.int 0))) aNil)) (fVar 1)) (gNm 2))
      (sCons (sAsg (f2 (oI cDiv fun i j => i / j) (f2 oIx (fVar 0) (fC (.int 0))) (fVar 1)) (gSb oSet (fVar 0) (fC (.int 0))))
      (sCons (sRet (fVar 2))
      sNil))) sNil)
      (sCons (sAsg (f2 oAdd (f2 oIx (fVar 0) (fC (.int 2))) (fC (.int 1))) (gSb oSet (fVar 0) (fC (.int 2))))
      (sCons (sAsg (f2 oIx (fLst (aCons (fC (.int 2147483647)) (aCons (fC (.int 2147483629)) (aCons (fC (.int 2147483587)) (aCons (fC (.int 2147483579)) (aCons (fC (.int 2147483563)) aNil)))))) (f2 (oI cMod fun i j => i % j) (fCallB (o1 oInt) (aCons (f2 oIx (fVar 0) (fC (.int 2))) aNil)) (fC (.int 5)))) (gNm 3))
      (sCons (sAsg (f2 (oI cMod fun i j => i % j) (fCallB (o1 oInt) (aCons (f2 (oI cPow fun i j => i ^ j.toNat) (fCallB (o1 oInt) (aCons (f2 oAdd (f2 oAdd (f2 oIx (fVar 0) (fC (.int 1))) (f2 (oI cMul fun i j => i * j) (f2 (oI cMul fun i j => i * j) (fC (.int 101325)) (f2 oIx (fVar 0) (fC (.int 2)))) (f2 oIx (fVar 0) (fC (.int 2))))) (fC (.int 1539))) aNil)) (fC (.int 3))) aNil)) (fVar 3)) (gNm 4))
      (sCons (sRet (f2 (oI cMod fun i j => i % j) (fCallB (o1 oInt) (aCons (f2 (oI cDiv fun i j => i / j) (f2 (oI cMul fun i j => i * j) (fVar 4) (f2 oAdd (f2 (oI cMod fun i j => i % j) (fCallB (o1 oInt) (aCons (fVar 4) aNil)) (fC (.int 11687))) (f2 (oI cMul fun i j => i * j) (fC (.int 669)) (f2 oIx (fVar 0) (fC (.int 2)))))) (fC (.int 341))) aNil)) (fVar 1)))
      sNil)))))
def c__law_take_27 : CF := cfOf 2 5 m__law_take_27
theorem s__law_take_27 : FnScope ["pot", "upto", "digit", "prime", "blend"] ["pot", "upto"] (defScope (top 27)) := ⟨rfl, rfl, rfl, by decide +kernel, rfl, by decide +kernel, by decide +kernel⟩
/-- is_whole -/
def m_is_whole_7 : FS :=
    (sCons (sRet (fAnd (fIsi .int (fVar 0)) (fNot (fIsi .bool (fVar 0)))))
      sNil)
def c_is_whole_7 : CF := cfOf 1 1 m_is_whole_7
theorem s_is_whole_7 : FnScope ["value"] ["value"] (defScope (top 7)) := ⟨rfl, rfl, rfl, by decide +kernel, rfl, by decide +kernel, by decide +kernel⟩
/-- is_natural -/
def m_is_natural_9 : FS :=
    (sCons (sRet (fAnd (fCall c_is_whole_7 (aCons (fVar 0) aNil)) (f2 oGe (fVar 0) (fC (.int 0)))))
      sNil)
def c_is_natural_9 : CF := cfOf 1 1 m_is_natural_9
theorem s_is_natural_9 : FnScope ["value"] ["value"] (defScope (top 9)) := ⟨rfl, rfl, rfl, by decide +kernel, rfl, by decide +kernel, by decide +kernel⟩
/-- is_pair -/
def m_is_pair_19 : FS :=
    (sCons (sRet (fAnd (fCall c_is_natural_9 (aCons (fVar 1) aNil)) (fAnd (fCall c_is_natural_9 (aCons (fVar 2) aNil)) (f2 (oEq false) (f2 (oI oTrue fun i j => i - j) (f2 (oI cMul fun i j => i * j) (fVar 1) (fVar 1)) (f2 (oI cMul fun i j => i * j) (f2 (oI cMul fun i j => i * j) (f2 (oI oTrue fun i j => i - j) (f2 (oI cMul fun i j => i * j) (fVar 0) (fVar 0)) (fC (.int 1))) (fVar 2)) (fVar 2))) (fC (.int 1))))))
      sNil)
def c_is_pair_19 : CF := cfOf 3 3 m_is_pair_19
theorem s_is_pair_19 : FnScope ["step", "x", "y"] ["step", "x", "y"] (defScope (top 19)) := ⟨rfl, rfl, rfl, by decide +kernel, rfl, by decide +kernel, by decide +kernel⟩
/-- is_tuple -/
def m_is_tuple_10 : FS :=
    (sCons (sRet (fAnd (fIsi .tuple (fVar 0)) (fAnd (f2 oLe (fVar 1) (fCallB (o1 oLen) (aCons (fVar 0) aNil))) (fOr (f2 (oIs false) (fVar 2) (fC .non)) (f2 oLe (fCallB (o1 oLen) (aCons (fVar 0) aNil)) (fVar 2))))))
      sNil)
def c_is_tuple_10 : CF := cfOf 3 3 m_is_tuple_10
theorem s_is_tuple_10 : FnScope ["value", "least", "most"] ["value", "least", "most"] (defScope (top 10)) := ⟨rfl, rfl, rfl, by decide +kernel, rfl, by decide +kernel, by decide +kernel⟩
/-- check_pair -/
def m_check_pair_22 : FS :=
    (sCons (sIf (fOr (fNot (fB (fCall c_is_tuple_10 (aCons (fVar 1) (aCons (fC (.int 2)) (aCons (fC (.int 2)) aNil)))))) (fNot (fB (fCall c_is_pair_19 (aCons (fVar 0) (aCons (f2 oIx (fVar 1) (fC (.int 0))) (aCons (f2 oIx (fVar 1) (fC (.int 1))) aNil))))))) (sCons sFail
      sNil) sNil)
      sNil)
def c_check_pair_22 : CF := cfOf 2 2 m_check_pair_22
theorem s_check_pair_22 : FnScope ["step", "value"] ["step", "value"] (defScope (top 22)) := ⟨rfl, rfl, rfl, by decide +kernel, rfl, by decide +kernel, by decide +kernel⟩
/-- is_integer -/
def m_is_integer_8 : FS :=
    (sCons (sRet (fAnd (fCall c_is_whole_7 (aCons (fVar 0) aNil)) (fChain oLe oLe (fVar 1) (fVar 0) (fVar 2))))
      sNil)
def c_is_integer_8 : CF := cfOf 3 3 m_is_integer_8
theorem s_is_integer_8 : FnScope ["value", "low", "high"] ["value", "low", "high"] (defScope (top 8)) := ⟨rfl, rfl, rfl, by decide +kernel, rfl, by decide +kernel, by decide +kernel⟩
/-- check_step -/
def m_check_step_15 : FS :=
    (sCons (sIf (fNot (fB (fCall c_is_integer_8 (aCons (fVar 0) (aCons (fC (.int 2)) (aCons (fC (.int 20)) aNil)))))) (sCons sFail
      sNil) sNil)
      sNil)
def c_check_step_15 : CF := cfOf 1 1 m_check_step_15
theorem s_check_step_15 : FnScope ["step"] ["step"] (defScope (top 15)) := ⟨rfl, rfl, rfl, by decide +kernel, rfl, by decide +kernel, by decide +kernel⟩
/-- doubled -/
def m_doubled_23 : FS :=
    (sCons (sExpr (fCall c_check_step_15 (aCons (fVar 0) aNil)))
      (sCons (sExpr (fCall c_check_pair_22 (aCons (fVar 0) (aCons (fVar 1) aNil))))
      (sCons (sAsg (fVar 1) (gTp 2 (gsCons (gNm 2) (gsCons (gNm 3) gsNil))))
      (sCons (sRet (fTup (aCons (f2 (oI oTrue fun i j => i - j) (f2 oAdd (f2 (oI cMul fun i j => i * j) (fVar 2) (fVar 2)) (f2 (oI cMul fun i j => i * j) (fVar 2) (fVar 2))) (fC (.int 1))) (aCons (f2 oAdd (f2 (oI cMul fun i j => i * j) (fVar 2) (fVar 3)) (f2 (oI cMul fun i j => i * j) (fVar 2) (fVar 3))) aNil))))
      sNil))))
def c_doubled_23 : CF := cfOf 2 4 m_doubled_23
theorem s_doubled_23 : FnScope ["step", "pair", "x", "y"] ["step", "pair"] (defScope (top 23)) := ⟨rfl, rfl, rfl, by decide +kernel, rfl, by decide +kernel, by decide +kernel⟩
/-- number_of -/
def m_number_of_20 : FS :=
    (sCons (sIf (fNot (fB (fCall c_is_pair_19 (aCons (fVar 0) (aCons (fVar 1) (aCons (fVar 2) aNil)))))) (sCons (sRet (fC .non))
      sNil) sNil)
      (sCons (sAsg (fC (.int 0)) (gNm 3))
      (sCons (sWhile 100000 (fB (f2 oGt (fVar 2) (fC (.int 0)))) (sCons (sPar [1, 2] (aCons (f2 (oI oTrue fun i j => i - j) (f2 (oI cMul fun i j => i * j) (fVar 0) (fVar 1)) (f2 (oI cMul fun i j => i * j) (f2 (oI oTrue fun i j => i - j) (f2 (oI cMul fun i j => i * j) (fVar 0) (fVar 0)) (fC (.int 1))) (fVar 2))) (aCons (f2 (oI oTrue fun i j => i - j) (f2 (oI cMul fun i j => i * j) (fVar 0) (fVar 2)) (fVar 1)) aNil)))
      (sCons (sAug 3 (oI oTrue fun i j => i + j) (fC (.int 1)))
      sNil)))
      (sCons (sRet (fVar 3))
      sNil))))
def c_number_of_20 : CF := cfOf 3 4 m_number_of_20
theorem s_number_of_20 : FnScope ["step", "x", "y", "found"] ["step", "x", "y"] (defScope (top 20)) := ⟨rfl, rfl, rfl, by decide +kernel, rfl, by decide +kernel, by decide +kernel⟩
/-- index_of -/
def m_index_of_21 : FS :=
    (sCons (sExpr (fCall c_check_step_15 (aCons (fVar 0) aNil)))
      (sCons (sRet (fCall c_number_of_20 (aCons (fVar 0) (aCons (fVar 1) (aCons (fVar 2) aNil)))))
      sNil))
def c_index_of_21 : CF := cfOf 3 3 m_index_of_21
theorem s_index_of_21 : FnScope ["step", "x", "y"] ["step", "x", "y"] (defScope (top 21)) := ⟨rfl, rfl, rfl, by decide +kernel, rfl, by decide +kernel, by decide +kernel⟩
/-- check_index -/
def m_check_index_16 : FS :=
    (sCons (sIf (fNot (fB (fCall c_is_integer_8 (aCons (fVar 0) (aCons (fVar 1) (aCons (fC (.int 200)) aNil)))))) (sCons sFail
      sNil) sNil)
      sNil)
def c_check_index_16 : CF := cfOf 2 2 m_check_index_16
theorem s_check_index_16 : FnScope ["index", "low"] ["index", "low"] (defScope (top 16)) := ⟨rfl, rfl, rfl, by decide +kernel, rfl, by decide +kernel, by decide +kernel⟩
/-- pair_at -/
def m_pair_at_17 : FS :=
    (sCons (sAsg (fTup (aCons (fC (.int 1)) (aCons (fC (.int 0)) aNil))) (gTp 2 (gsCons (gNm 2) (gsCons (gNm 3) gsNil))))
      (sCons (sFor (fRange1 (aCons (fVar 1) aNil)) (gNm 4) (sCons (sPar [2, 3] (aCons (f2 oAdd (f2 (oI cMul fun i j => i * j) (fVar 0) (fVar 2)) (f2 (oI cMul fun i j => i * j) (f2 (oI oTrue fun i j => i - j) (f2 (oI cMul fun i j => i * j) (fVar 0) (fVar 0)) (fC (.int 1))) (fVar 3))) (aCons (f2 oAdd (fVar 2) (f2 (oI cMul fun i j => i * j) (fVar 0) (fVar 3))) aNil)))
      sNil))
      (sCons (sRet (fTup (aCons (fVar 2) (aCons (fVar 3) aNil))))
      sNil)))
def c_pair_at_17 : CF := cfOf 2 5 m_pair_at_17
theorem s_pair_at_17 : FnScope ["step", "index", "x", "y", "lap"] ["step", "index"] (defScope (top 17)) := ⟨rfl, rfl, rfl, by decide +kernel, rfl, by decide +kernel, by decide +kernel⟩
/-- pell -/
def m_pell_18 : FS :=
    (sCons (sExpr (fCall c_check_step_15 (aCons (fVar 0) aNil)))
      (sCons (sExpr (fCall c_check_index_16 (aCons (fVar 1) (aCons (fC (.int 0)) aNil))))
      (sCons (sRet (fCall c_pair_at_17 (aCons (fVar 0) (aCons (fVar 1) aNil))))
      sNil)))
def c_pell_18 : CF := cfOf 2 2 m_pell_18
theorem s_pell_18 : FnScope ["step", "index"] ["step", "index"] (defScope (top 18)) := ⟨rfl, rfl, rfl, by decide +kernel, rfl, by decide +kernel, by decide +kernel⟩
/-- summed -/
def m_summed_24 : FS :=
    (sCons (sExpr (fCall c_check_step_15 (aCons (fVar 0) aNil)))
      (sCons (sExpr (fCall c_check_pair_22 (aCons (fVar 0) (aCons (fVar 1) aNil))))
      (sCons (sExpr (fCall c_check_pair_22 (aCons (fVar 0) (aCons (fVar 2) aNil))))
      (sCons (sRet (fTup (aCons (f2 oAdd (f2 (oI cMul fun i j => i * j) (f2 oIx (fVar 1) (fC (.int 0))) (f2 oIx (fVar 2) (fC (.int 0)))) (f2 (oI cMul fun i j => i * j) (f2 (oI cMul fun i j => i * j) (f2 (oI oTrue fun i j => i - j) (f2 (oI cMul fun i j => i * j) (fVar 0) (fVar 0)) (fC (.int 1))) (f2 oIx (fVar 1) (fC (.int 1)))) (f2 oIx (fVar 2) (fC (.int 1))))) (aCons (f2 oAdd (f2 (oI cMul fun i j => i * j) (f2 oIx (fVar 1) (fC (.int 0))) (f2 oIx (fVar 2) (fC (.int 1)))) (f2 (oI cMul fun i j => i * j) (f2 oIx (fVar 1) (fC (.int 1))) (f2 oIx (fVar 2) (fC (.int 0))))) aNil))))
      sNil))))
def c_summed_24 : CF := cfOf 3 3 m_summed_24
theorem s_summed_24 : FnScope ["step", "one", "other"] ["step", "one", "other"] (defScope (top 24)) := ⟨rfl, rfl, rfl, by decide +kernel, rfl, by decide +kernel, by decide +kernel⟩
/-- _law_are_great_right -/
def m__law_are_great_right_33 : FS :=
    (sCons (sAsg (f2 oAdd (fC (.int 1)) (fCall c__law_take_27 (aCons (fVar 0) (aCons (fC (.int 20)) aNil)))) (gNm 3))
      (sCons (sPar [4, 5] (aCons (f2 oIx (fVar 2) (fVar 3)) (aCons (fVar 3) aNil)))
      (sCons (sFor (fRange1 (aCons (fC (.int 4)) aNil)) (gNm 6) (sCons (sIf (fB (f2 (oEq false) (fCall c__law_take_27 (aCons (fVar 0) (aCons (fC (.int 2)) aNil))) (fC (.int 0)))) (sCons (sPar [4, 5] (aCons (fCall c_doubled_23 (aCons (fVar 1) (aCons (fVar 4) aNil))) (aCons (f2 (oI cMul fun i j => i * j) (fC (.int 2)) (fVar 5)) aNil)))
      sNil) (sCons (sAsg (fCall c__law_take_27 (aCons (fVar 0) (aCons (fC (.int 60)) aNil))) (gNm 7))
      (sCons (sPar [4, 5] (aCons (fCall c_summed_24 (aCons (fVar 1) (aCons (fVar 4) (aCons (f2 oIx (fVar 2) (fVar 7)) aNil)))) (aCons (f2 oAdd (fVar 5) (fVar 7)) aNil)))
      sNil)))
      (sCons (sIf (fOr (fB (f2 (oEq true) (f2 (oI oTrue fun i j => i - j) (f2 (oI cMul fun i j => i * j) (f2 oIx (fVar 4) (fC (.int 0))) (f2 oIx (fVar 4) (fC (.int 0)))) (f2 (oI cMul fun i j => i * j) (f2 (oI cMul fun i j => i * j) (f2 (oI oTrue fun i j => i - j) (f2 (oI cMul fun i j => i * j) (fVar 1) (fVar 1)) (fC (.int 1))) (f2 oIx (fVar 4) (fC (.int 1)))) (f2 oIx (fVar 4) (fC (.int 1))))) (fC (.int 1)))) (fB (f2 (oEq true) (fCallB (o1 oRepr) (aCons (fCall c_index_of_21 (aCons (fVar 1) (aCons (f2 oIx (fVar 4) (fC (.int 0))) (aCons (f2 oIx (fVar 4) (fC (.int 1))) aNil)))) aNil)) (fCallB (o1 oRepr) (aCons (fVar 5) aNil))))) (sCons (sRet (fC (.bl false)))
      sNil) sNil)
      sNil)))
      (sCons (sIf (fAnd (fB (f2 oLt (fVar 5) (fC (.int 201)))) (fB (f2 (oEq true) (fCallB (o1 oRepr) (aCons (fVar 4) aNil)) (fCallB (o1 oRepr) (aCons (fCall c_pell_18 (aCons (fVar 1) (aCons (fVar 5) aNil))) aNil))))) (sCons (sRet (fC (.bl false)))
      sNil) sNil)
      (sCons (sRet (fAnd (f2 (oIs false) (fCall c_index_of_21 (aCons (fVar 1) (aCons (f2 oAdd (f2 oIx (fVar 4) (fC (.int 0))) (fC (.int 1))) (aCons (f2 oIx (fVar 4) (fC (.int 1))) aNil)))) (fC .non)) (f2 (oIs false) (fCall c_index_of_21 (aCons (fVar 1) (aCons (f2 oIx (fVar 4) (fC (.int 0))) (aCons (f2 oAdd (f2 oIx (fVar 4) (fC (.int 1))) (fC (.int 2))) aNil)))) (fC .non))))
      sNil)))))
def c__law_are_great_right_33 : CF := cfOf 3 8 m__law_are_great_right_33
theorem s__law_are_great_right_33 : FnScope ["pot", "step", "pairs", "at", "pair", "number", "lap", "other"] ["pot", "step", "pairs"] (defScope (top 33)) := ⟨rfl, rfl, rfl, by decide +kernel, rfl, by decide +kernel, by decide +kernel⟩
/-- _law_pairs -/
def m__law_pairs_30 : FS :=
    (sCons (sAsg (fLst (aCons (fTup (aCons (fC (.int 1)) (aCons (fC (.int 0)) aNil))) aNil)) (gNm 2))
      (sCons (sFor (fRange1 (aCons (f2 (oI oTrue fun i j => i - j) (fVar 1) (fC (.int 1))) aNil)) (gNm 3) (sCons (sAsg (f2 oIx (fVar 2) (f1 (oU fun i => -i) (fC (.int 1)))) (gTp 2 (gsCons (gNm 4) (gsCons (gNm 5) gsNil))))
      (sCons (sExpr (fBM .list mApp (fVar 2) (aCons (fTup (aCons (f2 oAdd (f2 (oI cMul fun i j => i * j) (fVar 4) (fVar 0)) (f2 (oI cMul fun i j => i * j) (f2 (oI oTrue fun i j => i - j) (f2 (oI cMul fun i j => i * j) (fVar 0) (fVar 0)) (fC (.int 1))) (fVar 5))) (aCons (f2 oAdd (fVar 4) (f2 (oI cMul fun i j => i * j) (fVar 0) (fVar 5))) aNil))) aNil)))
      sNil)))
      (sCons (sRet (fVar 2))
      sNil)))
def c__law_pairs_30 : CF := cfOf 2 6 m__law_pairs_30
theorem s__law_pairs_30 : FnScope ["step", "many", "found", "lap", "x", "y"] ["step", "many"] (defScope (top 30)) := ⟨rfl, rfl, rfl, by decide +kernel, rfl, by decide +kernel, by decide +kernel⟩
/-- _law_raised -/
def m__law_raised_29 : FS :=
    (sCons (sPar [2, 3, 4] (aCons (fC (.int 1)) (aCons (fVar 0) (aCons (fVar 1) aNil))))
      (sCons (sFor (fRange1 (aCons (fBits (fVar 1)) aNil)) (gNm 5) (sCons (sIf (fB (f2 (oEq false) (f2 (oI cMod fun i j => i % j) (fVar 4) (fC (.int 2))) (fC (.int 1)))) (sCons (sAsg (f2 (oI cMul fun i j => i * j) (fVar 2) (fVar 3)) (gNm 2))
      sNil) sNil)
      (sCons (sPar [3, 4] (aCons (f2 (oI cMul fun i j => i * j) (fVar 3) (fVar 3)) (aCons (f2 (oI cDiv fun i j => i / j) (fVar 4) (fC (.int 2))) aNil)))
      sNil)))
      (sCons (sRet (fVar 2))
      sNil)))
def c__law_raised_29 : CF := cfOf 2 6 m__law_raised_29
theorem s__law_raised_29 : FnScope ["base", "many", "found", "square", "still", "lap"] ["base", "many"] (defScope (top 29)) := ⟨rfl, rfl, rfl, by decide +kernel, rfl, by decide +kernel, by decide +kernel⟩
/-- _law_square_root -/
def m__law_square_root_31 : FS :=
    (sCons (sAsg (fC (.int 0)) (gNm 1))
      (sCons (sFor (fRange3 (aCons (f2 (oI cDiv fun i j => i / j) (fBits (fVar 0)) (fC (.int 2))) (aCons (f1 (oU fun i => -i) (fC (.int 1))) (aCons (f1 (oU fun i => -i) (fC (.int 1))) aNil)))) (gNm 2) (sCons (sAsg (f2 oAdd (fVar 1) (fCall c__law_raised_29 (aCons (fC (.int 2)) (aCons (fVar 2) aNil)))) (gNm 3))
      (sCons (sIf (fB (f2 oLe (f2 (oI cMul fun i j => i * j) (fVar 3) (fVar 3)) (fVar 0))) (sCons (sAsg (fVar 3) (gNm 1))
      sNil) sNil)
      sNil)))
      (sCons (sRet (fVar 1))
      sNil)))
def c__law_square_root_31 : CF := cfOf 1 4 m__law_square_root_31
theorem s__law_square_root_31 : FnScope ["number", "found", "lap", "more"] ["number"] (defScope (top 31)) := ⟨rfl, rfl, rfl, by decide +kernel, rfl, by decide +kernel, by decide +kernel⟩
/-- _law_are_solved -/
def m__law_are_solved_32 : FS :=
    (sCons (sAsg (fCall c__law_pairs_30 (aCons (fVar 0) (aCons (fC (.int 12)) aNil))) (gNm 2))
      (sCons (sFor (fRange1 (aCons (fVar 1) aNil)) (gNm 3) (sCons (sAsg (f2 oAdd (fC (.int 1)) (f2 (oI cMul fun i j => i * j) (f2 (oI cMul fun i j => i * j) (f2 (oI oTrue fun i j => i - j) (f2 (oI cMul fun i j => i * j) (fVar 0) (fVar 0)) (fC (.int 1))) (fVar 3)) (fVar 3))) (gNm 4))
      (sCons (sAsg (fCall c__law_square_root_31 (aCons (fVar 4) aNil)) (gNm 5))
      (sCons (sAsg (fIfE (fB (f2 (oEq false) (f2 (oI cMul fun i j => i * j) (fVar 5) (fVar 5)) (fVar 4))) (fBM .list mIndex (fVar 2) (aCons (fTup (aCons (fVar 5) (aCons (fVar 3) aNil))) aNil)) (fC .non)) (gNm 6))
      (sCons (sIf (fOr (fB (f2 (oEq true) (fCallB (o1 oRepr) (aCons (fCall c_index_of_21 (aCons (fVar 0) (aCons (fVar 5) (aCons (fVar 3) aNil)))) aNil)) (fCallB (o1 oRepr) (aCons (fVar 6) aNil)))) (fB (f2 (oEq true) (f2 (oEq false) (f2 (oI cMul fun i j => i * j) (fVar 5) (fVar 5)) (fVar 4)) (f2 (oIn false) (fTup (aCons (fVar 5) (aCons (fVar 3) aNil))) (fVar 2))))) (sCons (sRet (fC (.bl false)))
      sNil) sNil)
      sNil)))))
      (sCons (sRet (fC (.bl true)))
      sNil)))
def c__law_are_solved_32 : CF := cfOf 2 7 m__law_are_solved_32
theorem s__law_are_solved_32 : FnScope ["step", "upto", "pairs", "y", "number", "x", "due"] ["step", "upto"] (defScope (top 32)) := ⟨rfl, rfl, rfl, by decide +kernel, rfl, by decide +kernel, by decide +kernel⟩
/-- _law_right -/
def m__law_right_34 : FS :=
    (sCons (sAsg (f2 oAdd (fC (.int 2)) (fCall c__law_take_27 (aCons (fVar 0) (aCons (fC (.int 19)) aNil)))) (gNm 1))
      (sCons (sAsg (fCall c__law_pairs_30 (aCons (fVar 1) (aCons (fC (.int 201)) aNil))) (gNm 2))
      (sCons (sFor (fIter (f2 oAdd (fLst (aCons (fC (.int 0)) (aCons (fC (.int 1)) (aCons (fC (.int 200)) aNil)))) (fComp (fRange1 (aCons (fC (.int 6)) aNil)) (cNm 9) (fC (.bl true)) (fCall c__law_take_27 (aCons (fVar 0) (aCons (fC (.int 201)) aNil))) [9]))) (gNm 3) (sCons (sAsg (f2 oIx (fVar 2) (fVar 3)) (gTp 2 (gsCons (gNm 4) (gsCons (gNm 5) gsNil))))
      (sCons (sIf (fOr (fB (f2 (oEq true) (fCallB (o1 oRepr) (aCons (fKw c_pell_18 0 2 [1, 0] aNil (aCons (fVar 3) (aCons (fVar 1) aNil))) aNil)) (fCallB (o1 oRepr) (aCons (fTup (aCons (fVar 4) (aCons (fVar 5) aNil))) aNil)))) (fB (f2 (oEq true) (fCallB (o1 oRepr) (aCons (fCall c_index_of_21 (aCons (fVar 1) (aCons (fVar 4) (aCons (fVar 5) aNil)))) aNil)) (fCallB (o1 oRepr) (aCons (fVar 3) aNil))))) (sCons (sRet (fC (.bl false)))
      sNil) sNil)
      (sCons (sIf (fOr (fB (f2 (oIs true) (fCall c_index_of_21 (aCons (fVar 1) (aCons (f2 (oI oTrue fun i j => i - j) (fC (.int 0)) (fVar 4)) (aCons (fVar 5) aNil)))) (fC .non))) (fB (f2 (oIs true) (fCall c_index_of_21 (aCons (fVar 1) (aCons (fVar 4) (aCons (f2 oAdd (fVar 5) (fC (.int 1))) aNil)))) (fC .non)))) (sCons (sRet (fC (.bl false)))
      sNil) sNil)
      (sCons (sIf (fB (f2 (oEq true) (fCallB (o1 oRepr) (aCons (fCall c_doubled_23 (aCons (fVar 1) (aCons (fTup (aCons (fVar 4) (aCons (fVar 5) aNil))) aNil))) aNil)) (fCallB (o1 oRepr) (aCons (fTup (aCons (f2 (oI oTrue fun i j => i - j) (f2 (oI cMul fun i j => i * j) (f2 (oI cMul fun i j => i * j) (fC (.int 2)) (fVar 4)) (fVar 4)) (fC (.int 1))) (aCons (f2 (oI cMul fun i j => i * j) (f2 (oI cMul fun i j => i * j) (fC (.int 2)) (fVar 4)) (fVar 5)) aNil))) aNil)))) (sCons (sRet (fC (.bl false)))
      sNil) sNil)
      sNil)))))
      (sCons (sFor (fIter (fTup (aCons (fTup (aCons (fC .non) (aCons (fC (.int 0)) aNil))) (aCons (fTup (aCons (fC (.bl true)) (aCons (fC (.int 0)) aNil))) (aCons (fTup (aCons (fC (.int 1)) (aCons (fC (.bl false)) aNil))) (aCons (fTup (aCons (fC (.str z0)) (aCons (fC (.int 0)) aNil))) (aCons (fTup (aCons (fC (.int 1)) (aCons (fC .non) aNil))) (aCons (fTup (aCons (fTup (aCons (fC (.int 1)) aNil)) (aCons (fC (.int 0)) aNil))) (aCons (fTup (aCons (fC (.int 1)) (aCons (f1 (oU fun i => -i) (fC (.int 1))) aNil))) (aCons (fTup (aCons (f2 oIx (f2 oIx (fVar 2) (fC (.int 1))) (fC (.int 0))) (aCons (fC (.bl true)) aNil))) (aCons (fTup (aCons (fC (.int 0)) (aCons (fC (.int 0)) aNil))) (aCons (fTup (aCons (fLst (aCons (fC (.int 1)) aNil)) (aCons (fC (.int 0)) aNil))) aNil)))))))))))) (gTp 2 (gsCons (gNm 6) (gsCons (gNm 7) gsNil))) (sCons (sIf (fB (f2 (oIs true) (fCall c_index_of_21 (aCons (fVar 1) (aCons (fVar 6) (aCons (fVar 7) aNil)))) (fC .non))) (sCons (sRet (fC (.bl false)))
      sNil) sNil)
      sNil))
      (sCons (sPar [8, 7] (aCons (fCall c__law_take_27 (aCons (fVar 0) (aCons (fC (.int 100)) aNil))) (aCons (fCall c__law_take_27 (aCons (fVar 0) (aCons (fC (.int 101)) aNil))) aNil)))
      (sCons (sIf (fB (f2 (oEq true) (fCallB (o1 oRepr) (aCons (fCall c_summed_24 (aCons (fVar 1) (aCons (f2 oIx (fVar 2) (fVar 8)) (aCons (f2 oIx (fVar 2) (fVar 7)) aNil)))) aNil)) (fCallB (o1 oRepr) (aCons (f2 oIx (fVar 2) (f2 oAdd (fVar 8) (fVar 7))) aNil)))) (sCons (sRet (fC (.bl false)))
      sNil) sNil)
      (sCons (sRet (fAnd (fCall c__law_are_solved_32 (aCons (fVar 1) (aCons (f2 oAdd (fC (.int 60)) (fCall c__law_take_27 (aCons (fVar 0) (aCons (fC (.int 60)) aNil)))) aNil))) (fCall c__law_are_great_right_33 (aCons (fVar 0) (aCons (fVar 1) (aCons (fVar 2) aNil))))))
      sNil)))))))
def c__law_right_34 : CF := cfOf 1 10 m__law_right_34
theorem s__law_right_34 : FnScope ["pot", "step", "pairs", "number", "x", "y", "value", "other", "one", "lap"] ["pot"] (defScope (top 34)) := ⟨rfl, rfl, rfl, by decide +kernel, rfl, by decide +kernel, by decide +kernel⟩
/-- law -/
def m_law_35 : FS :=
    (sCons (sRet (fCallB (o1 oAll) (aCons (fComp (fIter (fCall c__law_cells_28 (aCons (fVar 0) (aCons (fC (.int 2)) aNil)))) (cNm 1) (fC (.bl true)) (fCall c__law_right_34 (aCons (fCall c__law_pot_26 (aCons (fVar 0) (aCons (fVar 1) aNil))) aNil)) [1]) aNil)))
      sNil)
def c_law_35 : CF := cfOf 1 2 m_law_35
theorem s_law_35 : FnScope ["script", "place"] ["script"] (defScope (top 35)) := ⟨rfl, rfl, rfl, by decide +kernel, rfl, by decide +kernel, by decide +kernel⟩
section
variable {P : Program} {w : World} {K : PySem.W.Frag} {mg : Str → Option Value} {base : Heap}
theorem f__law_cells_28 (T : Tx K mg) {f : Addr} {fd : FuncData} (F : Fun K "_law_cells" "_law_cells" (top 28) f fd) : FnG P w K mg base 1 f fd ["script", "limit"] (spD K mg c__law_cells_28) := by
  refine def_g (N := ["script", "limit"]) (b := m__law_cells_28) F s__law_cells_28 rfl fun cdv A outer s H E X hX hr tk hp => ?_
  subst hX
  have sc := s__law_cells_28
  exact (sss_cons (ss_ret (xLR1 T.b_list T.b_range (xBf (call_oMax2 rfl) PyProof.Rows.boot_max T.b_max (xA1 se_int (xA1 (xBf (call_oMin2 rfl) PyProof.Rows.boot_min T.b_min (xA1 (xV 1) (xA1 (xBf call_oLen b_len T.b_len (xA1 (xV 0) sa_nil)) sa_nil))) sa_nil)))))
      sss_nil)
theorem f__law_pot_26 (T : Tx K mg) {f : Addr} {fd : FuncData} (F : Fun K "_law_pot" "_law_pot" (top 26) f fd) : FnG P w K mg base 1 f fd ["script", "place"] (spD K mg c__law_pot_26) := by
  refine def_g (N := ["script", "place", "cell", "own", "small"]) (b := m__law_pot_26) F s__law_pot_26 rfl fun cdv A outer s H E X hX hr tk hp => ?_
  subst hX
  have sc := s__law_pot_26
  exact (sss_cons (xSt 2 sc.nd (se_ifE (xTCm op_oLt (xV 1) (xBf call_oLen b_len T.b_len (xA1 (xV 0) sa_nil))) (xIx (xV 0) (xV 1)) (xBi op_oAdd (xBi op_oAdd (xBi op_oMod (xBt call_oInt b_int T.b_int (xA1 (xBf (call_oSum rfl) b_sum T.b_sum (xA1 (xSl (xV 0) so_none (so_some se_int)) sa_nil)) sa_nil)) se_int) (xBi op_oMul se_int (xV 1))) se_int)))
      (sss_cons (xSt 3 sc.nd (xBi op_oMul (xBi op_oMod (xBt call_oInt b_int T.b_int (xA1 (xBf call_oAbs b_abs T.b_abs (xA1 (xV 2) sa_nil)) sa_nil)) (xBi op_oPow (xBi op_oPow se_int se_int) se_int)) (xBt call_oInt b_int T.b_int (xA1 (xCm op_oGe (xBf call_oAbs b_abs T.b_abs (xA1 (xV 2) sa_nil)) (xBi op_oPow se_int se_int)) sa_nil))))
      (sss_cons (xSt 4 sc.nd (xBi op_oMod (xBt call_oInt b_int T.b_int (xA1 (xV 2) sa_nil)) se_int))
      (sss_cons (ss_ret (se_lst (xA1 (xV 3) (xA1 (xBi op_oMod (xBt call_oInt b_int T.b_int (xA1 (xBi op_oAdd (xBi op_oAdd (xBi op_oMul (xV 4) se_int) (xBi op_oMul (xBi op_oMul se_int (xV 1)) (xV 1))) se_int) sa_nil)) se_int) (xA1 se_int sa_nil)))))
      sss_nil))))
theorem f__law_take_27 (T : Tx K mg) {f : Addr} {fd : FuncData} (F : Fun K "_law_take" "_law_take" (top 27) f fd) : FnG P w K mg base 1 f fd ["pot", "upto"] (spD K mg c__law_take_27) := by
  refine def_g (N := ["pot", "upto", "digit", "prime", "blend"]) (b := m__law_take_27) F s__law_take_27 rfl fun cdv A outer s H E X hX hr tk hp => ?_
  subst hX
  have sc := s__law_take_27
  exact (sss_cons (ss_if (xTCm op_oGt (xIx (xV 0) se_int) se_int) (sss_cons (xSt 2 sc.nd (xBi op_oMod (xBt call_oInt b_int T.b_int (xA1 (xIx (xV 0) se_int) sa_nil)) (xV 1)))
      (sss_cons (xAs (xBi op_oDiv (xIx (xV 0) se_int) (xV 1)) (xGx (W := fun c d _ H => E c d H) (xV 0) se_int))
      (sss_cons (ss_ret (xV 2))
      sss_nil))) sss_nil)
      (sss_cons (xAs (xBi op_oAdd (xIx (xV 0) se_int) se_int) (xGx (W := fun c d _ H => E c d H) (xV 0) se_int))
      (sss_cons (xSt 3 sc.nd (xIx (se_lst (xA1 se_int (xA1 se_int (xA1 se_int (xA1 se_int (xA1 se_int sa_nil)))))) (xBi op_oMod (xBt call_oInt b_int T.b_int (xA1 (xIx (xV 0) se_int) sa_nil)) se_int)))
      (sss_cons (xSt 4 sc.nd (xBi op_oMod (xBt call_oInt b_int T.b_int (xA1 (xBi op_oPow (xBt call_oInt b_int T.b_int (xA1 (xBi op_oAdd (xBi op_oAdd (xIx (xV 0) se_int) (xBi op_oMul (xBi op_oMul se_int (xIx (xV 0) se_int)) (xIx (xV 0) se_int))) se_int) sa_nil)) se_int) sa_nil)) (xV 3)))
      (sss_cons (ss_ret (xBi op_oMod (xBt call_oInt b_int T.b_int (xA1 (xBi op_oDiv (xBi op_oMul (xV 4) (xBi op_oAdd (xBi op_oMod (xBt call_oInt b_int T.b_int (xA1 (xV 4) sa_nil)) se_int) (xBi op_oMul se_int (xIx (xV 0) se_int)))) se_int) sa_nil)) (xV 1)))
      sss_nil)))))
theorem f_is_whole_7 (T : Tx K mg) {f : Addr} {fd : FuncData} (F : Fun K "is_whole" "is_whole" (top 7) f fd) : FnG P w K mg base 1 f fd ["value"] (spD K mg c_is_whole_7) := by
  refine def_g (N := ["value"]) (b := m_is_whole_7) F s_is_whole_7 rfl fun cdv A outer s H E X hX hr tk hp => ?_
  subst hX
  have sc := s_is_whole_7
  exact (sss_cons (ss_ret (se_and (xIsi .int T.b_isinstance T.b_int (xV 0)) (se_one (se_not (xIsi .bool T.b_isinstance T.b_bool (xV 0))))))
      sss_nil)
theorem f_is_natural_9 (T : Tx K mg) {f : Addr} {fd : FuncData} (F : Fun K "is_natural" "is_natural" (top 9) f fd) : FnG P w K mg base 2 f fd ["value"] (spD K mg c_is_natural_9) := by
  refine def_g (N := ["value"]) (b := m_is_natural_9) F s_is_natural_9 rfl fun cdv A outer s H E X hX hr tk hp => ?_
  subst hX
  have sc := s_is_natural_9
  have C_is_whole : Cal P w K mg base 1 "is_whole" c_is_whole_7 := (cal_of T.d_is_whole fun _ _ F => f_is_whole_7 T F).mono (by decide)
  exact (sss_cons (ss_ret (se_and (xCl C_is_whole hr tk (xA1 (xV 0) sa_nil)) (se_one (xCm op_oGe (xV 0) se_int))))
      sss_nil)
theorem f_is_pair_19 (T : Tx K mg) {f : Addr} {fd : FuncData} (F : Fun K "is_pair" "is_pair" (top 19) f fd) : FnG P w K mg base 3 f fd ["step", "x", "y"] (spD K mg c_is_pair_19) := by
  refine def_g (N := ["step", "x", "y"]) (b := m_is_pair_19) F s_is_pair_19 rfl fun cdv A outer s H E X hX hr tk hp => ?_
  subst hX
  have sc := s_is_pair_19
  have C_is_natural : Cal P w K mg base 2 "is_natural" c_is_natural_9 := (cal_of T.d_is_natural fun _ _ F => f_is_natural_9 T F).mono (by decide)
  exact (sss_cons (ss_ret (se_and (xCl C_is_natural hr tk (xA1 (xV 1) sa_nil)) (se_and (xCl C_is_natural hr tk (xA1 (xV 2) sa_nil)) (se_one (xCm (op_oEq hr.r) (xBi op_oSub (xBi op_oMul (xV 1) (xV 1)) (xBi op_oMul (xBi op_oMul (xBi op_oSub (xBi op_oMul (xV 0) (xV 0)) se_int) (xV 2)) (xV 2))) se_int)))))
      sss_nil)
theorem f_is_tuple_10 (T : Tx K mg) {f : Addr} {fd : FuncData} (F : Fun K "is_tuple" "is_tuple" (top 10) f fd) : FnG P w K mg base 1 f fd ["value", "least", "most"] (spD K mg c_is_tuple_10) := by
  refine def_g (N := ["value", "least", "most"]) (b := m_is_tuple_10) F s_is_tuple_10 rfl fun cdv A outer s H E X hX hr tk hp => ?_
  subst hX
  have sc := s_is_tuple_10
  exact (sss_cons (ss_ret (se_and (xIsi .tuple T.b_isinstance T.b_tuple (xV 0)) (se_and (xCm op_oLe (xV 1) (xBf call_oLen b_len T.b_len (xA1 (xV 0) sa_nil))) (se_one (se_or (xCm op_oIs (xV 2) se_non) (se_one (xCm op_oLe (xBf call_oLen b_len T.b_len (xA1 (xV 0) sa_nil)) (xV 2))))))))
      sss_nil)
theorem f_check_pair_22 (T : Tx K mg) {f : Addr} {fd : FuncData} (F : Fun K "check_pair" "check_pair" (top 22) f fd) : FnG P w K mg base 4 f fd ["step", "value"] (spD K mg c_check_pair_22) := by
  refine def_g (N := ["step", "value"]) (b := m_check_pair_22) F s_check_pair_22 rfl fun cdv A outer s H E X hX hr tk hp => ?_
  subst hX
  have sc := s_check_pair_22
  have C_is_pair : Cal P w K mg base 3 "is_pair" c_is_pair_19 := (cal_of T.d_is_pair fun _ _ F => f_is_pair_19 T F).mono (by decide)
  have C_is_tuple : Cal P w K mg base 3 "is_tuple" c_is_tuple_10 := (cal_of T.d_is_tuple fun _ _ F => f_is_tuple_10 T F).mono (by decide)
  exact (sss_cons (ss_if (xTW (sw_or (st_not (xTv (xCl C_is_tuple hr tk (xA1 (xV 1) (xA1 (xGI T.g_PAIR) (xA1 (xGI T.g_PAIR) sa_nil)))))) (sw_one_or (st_not (xTv (xCl C_is_pair hr tk (xA1 (xV 0) (xA1 (xIx (xV 1) se_int) (xA1 (xIx (xV 1) se_int) sa_nil))))))))) (sss_cons ss_fail
      sss_nil) sss_nil)
      sss_nil)
theorem f_is_integer_8 (T : Tx K mg) {f : Addr} {fd : FuncData} (F : Fun K "is_integer" "is_integer" (top 8) f fd) : FnG P w K mg base 2 f fd ["value", "low", "high"] (spD K mg c_is_integer_8) := by
  refine def_g (N := ["value", "low", "high"]) (b := m_is_integer_8) F s_is_integer_8 rfl fun cdv A outer s H E X hX hr tk hp => ?_
  subst hX
  have sc := s_is_integer_8
  have C_is_whole : Cal P w K mg base 1 "is_whole" c_is_whole_7 := (cal_of T.d_is_whole fun _ _ F => f_is_whole_7 T F).mono (by decide)
  exact (sss_cons (ss_ret (se_and (xCl C_is_whole hr tk (xA1 (xV 0) sa_nil)) (se_one (xCh op_oLe op_oLe (xV 1) (xV 0) (xV 2)))))
      sss_nil)
theorem f_check_step_15 (T : Tx K mg) {f : Addr} {fd : FuncData} (F : Fun K "check_step" "check_step" (top 15) f fd) : FnG P w K mg base 3 f fd ["step"] (spD K mg c_check_step_15) := by
  refine def_g (N := ["step"]) (b := m_check_step_15) F s_check_step_15 rfl fun cdv A outer s H E X hX hr tk hp => ?_
  subst hX
  have sc := s_check_step_15
  have C_is_integer : Cal P w K mg base 2 "is_integer" c_is_integer_8 := (cal_of T.d_is_integer fun _ _ F => f_is_integer_8 T F).mono (by decide)
  exact (sss_cons (ss_if (st_not (xTv (xCl C_is_integer hr tk (xA1 (xV 0) (xA1 (xGI T.g_LEAST_STEP) (xA1 (xGI T.g_MOST_STEP) sa_nil)))))) (sss_cons ss_fail
      sss_nil) sss_nil)
      sss_nil)
theorem f_doubled_23 (T : Tx K mg) {f : Addr} {fd : FuncData} (F : Fun K "doubled" "doubled" (top 23) f fd) : FnG P w K mg base 5 f fd ["step", "pair"] (spD K mg c_doubled_23) := by
  refine def_g (N := ["step", "pair", "x", "y"]) (b := m_doubled_23) F s_doubled_23 rfl fun cdv A outer s H E X hX hr tk hp => ?_
  subst hX
  have sc := s_doubled_23
  have C_check_pair : Cal P w K mg base 4 "check_pair" c_check_pair_22 := (cal_of T.d_check_pair fun _ _ F => f_check_pair_22 T F).mono (by decide)
  have C_check_step : Cal P w K mg base 4 "check_step" c_check_step_15 := (cal_of T.d_check_step fun _ _ F => f_check_step_15 T F).mono (by decide)
  exact (sss_cons (xEx (xCl C_check_step hr tk (xA1 (xV 0) sa_nil)))
      (sss_cons (xEx (xCl C_check_pair hr tk (xA1 (xV 0) (xA1 (xV 1) sa_nil))))
      (sss_cons (xAs (xV 1) (xGTu 2 rfl (xG1 (xGN 2 sc.nd) (xG1 (xGN 3 sc.nd) sgs_nil))))
      (sss_cons (ss_ret (se_tup (xA1 (xBi op_oSub (xBi op_oAdd (xBi op_oMul (xV 2) (xV 2)) (xBi op_oMul (xV 2) (xV 2))) se_int) (xA1 (xBi op_oAdd (xBi op_oMul (xV 2) (xV 3)) (xBi op_oMul (xV 2) (xV 3))) sa_nil))))
      sss_nil))))
theorem f_number_of_20 (T : Tx K mg) {f : Addr} {fd : FuncData} (F : Fun K "number_of" "number_of" (top 20) f fd) : FnG P w K mg base 4 f fd ["step", "x", "y"] (spD K mg c_number_of_20) := by
  refine def_g (N := ["step", "x", "y", "found"]) (b := m_number_of_20) F s_number_of_20 rfl fun cdv A outer s H E X hX hr tk hp => ?_
  subst hX
  have sc := s_number_of_20
  have C_is_pair : Cal P w K mg base 3 "is_pair" c_is_pair_19 := (cal_of T.d_is_pair fun _ _ F => f_is_pair_19 T F).mono (by decide)
  exact (sss_cons (ss_if (st_not (xTv (xCl C_is_pair hr tk (xA1 (xV 0) (xA1 (xV 1) (xA1 (xV 2) sa_nil)))))) (sss_cons (ss_ret se_non)
      sss_nil) sss_nil)
      (sss_cons (xSt 3 sc.nd se_int)
      (sss_cons (ss_while hp (xTCm op_oGt (xV 2) se_int) (sss_cons (xP2 rfl sc.nd 1 2 (xA1 (xBi op_oSub (xBi op_oMul (xV 0) (xV 1)) (xBi op_oMul (xBi op_oSub (xBi op_oMul (xV 0) (xV 0)) se_int) (xV 2))) (xA1 (xBi op_oSub (xBi op_oMul (xV 0) (xV 2)) (xV 1)) sa_nil)))
      (sss_cons (xAu 3 sc.nd (op_oI0 iop_add) se_int)
      sss_nil)))
      (sss_cons (ss_ret (xV 3))
      sss_nil))))
theorem f_index_of_21 (T : Tx K mg) {f : Addr} {fd : FuncData} (F : Fun K "index_of" "index_of" (top 21) f fd) : FnG P w K mg base 5 f fd ["step", "x", "y"] (spD K mg c_index_of_21) := by
  refine def_g (N := ["step", "x", "y"]) (b := m_index_of_21) F s_index_of_21 rfl fun cdv A outer s H E X hX hr tk hp => ?_
  subst hX
  have sc := s_index_of_21
  have C_check_step : Cal P w K mg base 4 "check_step" c_check_step_15 := (cal_of T.d_check_step fun _ _ F => f_check_step_15 T F).mono (by decide)
  have C_number_of : Cal P w K mg base 4 "number_of" c_number_of_20 := (cal_of T.d_number_of fun _ _ F => f_number_of_20 T F).mono (by decide)
  exact (sss_cons (xEx (xCl C_check_step hr tk (xA1 (xV 0) sa_nil)))
      (sss_cons (ss_ret (xCl C_number_of hr tk (xA1 (xV 0) (xA1 (xV 1) (xA1 (xV 2) sa_nil)))))
      sss_nil))
theorem f_check_index_16 (T : Tx K mg) {f : Addr} {fd : FuncData} (F : Fun K "check_index" "check_index" (top 16) f fd) : FnG P w K mg base 3 f fd ["index", "low"] (spD K mg c_check_index_16) := by
  refine def_g (N := ["index", "low"]) (b := m_check_index_16) F s_check_index_16 rfl fun cdv A outer s H E X hX hr tk hp => ?_
  subst hX
  have sc := s_check_index_16
  have C_is_integer : Cal P w K mg base 2 "is_integer" c_is_integer_8 := (cal_of T.d_is_integer fun _ _ F => f_is_integer_8 T F).mono (by decide)
  exact (sss_cons (ss_if (st_not (xTv (xCl C_is_integer hr tk (xA1 (xV 0) (xA1 (xV 1) (xA1 (xGI T.g_MOST_INDEX) sa_nil)))))) (sss_cons ss_fail
      sss_nil) sss_nil)
      sss_nil)
theorem f_pair_at_17 (T : Tx K mg) {f : Addr} {fd : FuncData} (F : Fun K "pair_at" "pair_at" (top 17) f fd) : FnG P w K mg base 1 f fd ["step", "index"] (spD K mg c_pair_at_17) := by
  refine def_g (N := ["step", "index", "x", "y", "lap"]) (b := m_pair_at_17) F s_pair_at_17 rfl fun cdv A outer s H E X hX hr tk hp => ?_
  subst hX
  have sc := s_pair_at_17
  exact (sss_cons (xAs (se_tup (xA1 se_int (xA1 se_int sa_nil))) (xGTu 2 rfl (xG1 (xGN 2 sc.nd) (xG1 (xGN 3 sc.nd) sgs_nil))))
      (sss_cons (xFo hp rfl (xR1 T.b_range (xA1 (xV 1) sa_nil)) (xGN 4 sc.nd) (sss_cons (xP2 rfl sc.nd 2 3 (xA1 (xBi op_oAdd (xBi op_oMul (xV 0) (xV 2)) (xBi op_oMul (xBi op_oSub (xBi op_oMul (xV 0) (xV 0)) se_int) (xV 3))) (xA1 (xBi op_oAdd (xV 2) (xBi op_oMul (xV 0) (xV 3))) sa_nil)))
      sss_nil))
      (sss_cons (ss_ret (se_tup (xA1 (xV 2) (xA1 (xV 3) sa_nil))))
      sss_nil)))
theorem f_pell_18 (T : Tx K mg) {f : Addr} {fd : FuncData} (F : Fun K "pell" "pell" (top 18) f fd) : FnG P w K mg base 4 f fd ["step", "index"] (spD K mg c_pell_18) := by
  refine def_g (N := ["step", "index"]) (b := m_pell_18) F s_pell_18 rfl fun cdv A outer s H E X hX hr tk hp => ?_
  subst hX
  have sc := s_pell_18
  have C_check_index : Cal P w K mg base 3 "check_index" c_check_index_16 := (cal_of T.d_check_index fun _ _ F => f_check_index_16 T F).mono (by decide)
  have C_check_step : Cal P w K mg base 3 "check_step" c_check_step_15 := (cal_of T.d_check_step fun _ _ F => f_check_step_15 T F).mono (by decide)
  have C_pair_at : Cal P w K mg base 3 "pair_at" c_pair_at_17 := (cal_of T.d_pair_at fun _ _ F => f_pair_at_17 T F).mono (by decide)
  exact (sss_cons (xEx (xCl C_check_step hr tk (xA1 (xV 0) sa_nil)))
      (sss_cons (xEx (xCl C_check_index hr tk (xA1 (xV 1) (xA1 se_int sa_nil))))
      (sss_cons (ss_ret (xCl C_pair_at hr tk (xA1 (xV 0) (xA1 (xV 1) sa_nil))))
      sss_nil)))
theorem f_summed_24 (T : Tx K mg) {f : Addr} {fd : FuncData} (F : Fun K "summed" "summed" (top 24) f fd) : FnG P w K mg base 5 f fd ["step", "one", "other"] (spD K mg c_summed_24) := by
  refine def_g (N := ["step", "one", "other"]) (b := m_summed_24) F s_summed_24 rfl fun cdv A outer s H E X hX hr tk hp => ?_
  subst hX
  have sc := s_summed_24
  have C_check_pair : Cal P w K mg base 4 "check_pair" c_check_pair_22 := (cal_of T.d_check_pair fun _ _ F => f_check_pair_22 T F).mono (by decide)
  have C_check_step : Cal P w K mg base 4 "check_step" c_check_step_15 := (cal_of T.d_check_step fun _ _ F => f_check_step_15 T F).mono (by decide)
  exact (sss_cons (xEx (xCl C_check_step hr tk (xA1 (xV 0) sa_nil)))
      (sss_cons (xEx (xCl C_check_pair hr tk (xA1 (xV 0) (xA1 (xV 1) sa_nil))))
      (sss_cons (xEx (xCl C_check_pair hr tk (xA1 (xV 0) (xA1 (xV 2) sa_nil))))
      (sss_cons (ss_ret (se_tup (xA1 (xBi op_oAdd (xBi op_oMul (xIx (xV 1) se_int) (xIx (xV 2) se_int)) (xBi op_oMul (xBi op_oMul (xBi op_oSub (xBi op_oMul (xV 0) (xV 0)) se_int) (xIx (xV 1) se_int)) (xIx (xV 2) se_int))) (xA1 (xBi op_oAdd (xBi op_oMul (xIx (xV 1) se_int) (xIx (xV 2) se_int)) (xBi op_oMul (xIx (xV 1) se_int) (xIx (xV 2) se_int))) sa_nil))))
      sss_nil))))
theorem f__law_are_great_right_33 (T : Tx K mg) {f : Addr} {fd : FuncData} (F : Fun K "_law_are_great_right" "_law_are_great_right" (top 33) f fd) : FnG P w K mg base 6 f fd ["pot", "step", "pairs"] (spD K mg c__law_are_great_right_33) := by
  refine def_g (N := ["pot", "step", "pairs", "at", "pair", "number", "lap", "other"]) (b := m__law_are_great_right_33) F s__law_are_great_right_33 rfl fun cdv A outer s H E X hX hr tk hp => ?_
  subst hX
  have sc := s__law_are_great_right_33
  have C__law_take : Cal P w K mg base 5 "_law_take" c__law_take_27 := (cal_of T.d__law_take fun _ _ F => f__law_take_27 T F).mono (by decide)
  have C_doubled : Cal P w K mg base 5 "doubled" c_doubled_23 := (cal_of T.d_doubled fun _ _ F => f_doubled_23 T F).mono (by decide)
  have C_index_of : Cal P w K mg base 5 "index_of" c_index_of_21 := (cal_of T.d_index_of fun _ _ F => f_index_of_21 T F).mono (by decide)
  have C_pell : Cal P w K mg base 5 "pell" c_pell_18 := (cal_of T.d_pell fun _ _ F => f_pell_18 T F).mono (by decide)
  have C_summed : Cal P w K mg base 5 "summed" c_summed_24 := (cal_of T.d_summed fun _ _ F => f_summed_24 T F).mono (by decide)
  exact (sss_cons (xSt 3 sc.nd (xBi op_oAdd se_int (xCl C__law_take hr tk (xA1 (xV 0) (xA1 se_int sa_nil)))))
      (sss_cons (xP2 rfl sc.nd 4 5 (xA1 (xIx (xV 2) (xV 3)) (xA1 (xV 3) sa_nil)))
      (sss_cons (xFo hp rfl (xR1 T.b_range (xA1 se_int sa_nil)) (xGN 6 sc.nd) (sss_cons (ss_if (xTCm (op_oEq hr.r) (xCl C__law_take hr tk (xA1 (xV 0) (xA1 se_int sa_nil))) se_int) (sss_cons (xP2 rfl sc.nd 4 5 (xA1 (xCl C_doubled hr tk (xA1 (xV 1) (xA1 (xV 4) sa_nil))) (xA1 (xBi op_oMul se_int (xV 5)) sa_nil)))
      sss_nil) (sss_cons (xSt 7 sc.nd (xCl C__law_take hr tk (xA1 (xV 0) (xA1 se_int sa_nil))))
      (sss_cons (xP2 rfl sc.nd 4 5 (xA1 (xCl C_summed hr tk (xA1 (xV 1) (xA1 (xV 4) (xA1 (xIx (xV 2) (xV 7)) sa_nil)))) (xA1 (xBi op_oAdd (xV 5) (xV 7)) sa_nil)))
      sss_nil)))
      (sss_cons (ss_if (xTW (sw_or (xTCm (op_oNe hr.r) (xBi op_oSub (xBi op_oMul (xIx (xV 4) se_int) (xIx (xV 4) se_int)) (xBi op_oMul (xBi op_oMul (xBi op_oSub (xBi op_oMul (xV 1) (xV 1)) se_int) (xIx (xV 4) se_int)) (xIx (xV 4) se_int))) se_int) (sw_one_or (xTCm (op_oNe hr.r) (xBf (call_oRepr hr T.nd) b_repr T.b_repr (xA1 (xCl C_index_of hr tk (xA1 (xV 1) (xA1 (xIx (xV 4) se_int) (xA1 (xIx (xV 4) se_int) sa_nil)))) sa_nil)) (xBf (call_oRepr hr T.nd) b_repr T.b_repr (xA1 (xV 5) sa_nil)))))) (sss_cons (ss_ret se_bl)
      sss_nil) sss_nil)
      sss_nil)))
      (sss_cons (ss_if (xTW (sw_and (xTCm op_oLt (xV 5) se_int) (sw_one_and (xTCm (op_oNe hr.r) (xBf (call_oRepr hr T.nd) b_repr T.b_repr (xA1 (xV 4) sa_nil)) (xBf (call_oRepr hr T.nd) b_repr T.b_repr (xA1 (xCl C_pell hr tk (xA1 (xV 1) (xA1 (xV 5) sa_nil))) sa_nil)))))) (sss_cons (ss_ret se_bl)
      sss_nil) sss_nil)
      (sss_cons (ss_ret (se_and (xCm op_oIs (xCl C_index_of hr tk (xA1 (xV 1) (xA1 (xBi op_oAdd (xIx (xV 4) se_int) se_int) (xA1 (xIx (xV 4) se_int) sa_nil)))) se_non) (se_one (xCm op_oIs (xCl C_index_of hr tk (xA1 (xV 1) (xA1 (xIx (xV 4) se_int) (xA1 (xBi op_oAdd (xIx (xV 4) se_int) se_int) sa_nil)))) se_non))))
      sss_nil)))))
theorem f__law_pairs_30 (T : Tx K mg) {f : Addr} {fd : FuncData} (F : Fun K "_law_pairs" "_law_pairs" (top 30) f fd) : FnG P w K mg base 1 f fd ["step", "many"] (spD K mg c__law_pairs_30) := by
  refine def_g (N := ["step", "many", "found", "lap", "x", "y"]) (b := m__law_pairs_30) F s__law_pairs_30 rfl fun cdv A outer s H E X hX hr tk hp => ?_
  subst hX
  have sc := s__law_pairs_30
  exact (sss_cons (xSt 2 sc.nd (se_lst (xA1 (se_tup (xA1 se_int (xA1 se_int sa_nil))) sa_nil)))
      (sss_cons (xFo hp rfl (xR1 T.b_range (xA1 (xBi op_oSub (xV 1) se_int) sa_nil)) (xGN 3 sc.nd) (sss_cons (xAs (xIx (xV 2) (se_un op_oNeg se_int)) (xGTu 2 rfl (xG1 (xGN 4 sc.nd) (xG1 (xGN 5 sc.nd) sgs_nil))))
      (sss_cons (xEx (xMe (t := .list) mt_mApp PySem.F.plainAttrs_list PySem.F.slot_list_append PySem.F.type_list_append (xV 2) (xA1 (se_tup (xA1 (xBi op_oAdd (xBi op_oMul (xV 4) (xV 0)) (xBi op_oMul (xBi op_oSub (xBi op_oMul (xV 0) (xV 0)) se_int) (xV 5))) (xA1 (xBi op_oAdd (xV 4) (xBi op_oMul (xV 0) (xV 5))) sa_nil))) sa_nil)))
      sss_nil)))
      (sss_cons (ss_ret (xV 2))
      sss_nil)))
theorem f__law_raised_29 (T : Tx K mg) {f : Addr} {fd : FuncData} (F : Fun K "_law_raised" "_law_raised" (top 29) f fd) : FnG P w K mg base 1 f fd ["base", "many"] (spD K mg c__law_raised_29) := by
  refine def_g (N := ["base", "many", "found", "square", "still", "lap"]) (b := m__law_raised_29) F s__law_raised_29 rfl fun cdv A outer s H E X hX hr tk hp => ?_
  subst hX
  have sc := s__law_raised_29
  exact (sss_cons (xP3 rfl sc.nd 2 3 4 (xA1 se_int (xA1 (xV 0) (xA1 (xV 1) sa_nil))))
      (sss_cons (xFo hp rfl (xR1 T.b_range (xA1 (xBits (xV 1)) sa_nil)) (xGN 5 sc.nd) (sss_cons (ss_if (xTCm (op_oEq hr.r) (xBi op_oMod (xV 4) se_int) se_int) (sss_cons (xSt 2 sc.nd (xBi op_oMul (xV 2) (xV 3)))
      sss_nil) sss_nil)
      (sss_cons (xP2 rfl sc.nd 3 4 (xA1 (xBi op_oMul (xV 3) (xV 3)) (xA1 (xBi op_oDiv (xV 4) se_int) sa_nil)))
      sss_nil)))
      (sss_cons (ss_ret (xV 2))
      sss_nil)))
theorem f__law_square_root_31 (T : Tx K mg) {f : Addr} {fd : FuncData} (F : Fun K "_law_square_root" "_law_square_root" (top 31) f fd) : FnG P w K mg base 2 f fd ["number"] (spD K mg c__law_square_root_31) := by
  refine def_g (N := ["number", "found", "lap", "more"]) (b := m__law_square_root_31) F s__law_square_root_31 rfl fun cdv A outer s H E X hX hr tk hp => ?_
  subst hX
  have sc := s__law_square_root_31
  have C__law_raised : Cal P w K mg base 1 "_law_raised" c__law_raised_29 := (cal_of T.d__law_raised fun _ _ F => f__law_raised_29 T F).mono (by decide)
  exact (sss_cons (xSt 1 sc.nd se_int)
      (sss_cons (xFo hp rfl (xR3 T.b_range (xA1 (xBi op_oDiv (xBits (xV 0)) se_int) (xA1 (se_un op_oNeg se_int) (xA1 (se_un op_oNeg se_int) sa_nil)))) (xGN 2 sc.nd) (sss_cons (xSt 3 sc.nd (xBi op_oAdd (xV 1) (xCl C__law_raised hr tk (xA1 se_int (xA1 (xV 2) sa_nil)))))
      (sss_cons (ss_if (xTCm op_oLe (xBi op_oMul (xV 3) (xV 3)) (xV 0)) (sss_cons (xSt 1 sc.nd (xV 3))
      sss_nil) sss_nil)
      sss_nil)))
      (sss_cons (ss_ret (xV 1))
      sss_nil)))
theorem f__law_are_solved_32 (T : Tx K mg) {f : Addr} {fd : FuncData} (F : Fun K "_law_are_solved" "_law_are_solved" (top 32) f fd) : FnG P w K mg base 6 f fd ["step", "upto"] (spD K mg c__law_are_solved_32) := by
  refine def_g (N := ["step", "upto", "pairs", "y", "number", "x", "due"]) (b := m__law_are_solved_32) F s__law_are_solved_32 rfl fun cdv A outer s H E X hX hr tk hp => ?_
  subst hX
  have sc := s__law_are_solved_32
  have C__law_pairs : Cal P w K mg base 5 "_law_pairs" c__law_pairs_30 := (cal_of T.d__law_pairs fun _ _ F => f__law_pairs_30 T F).mono (by decide)
  have C__law_square_root : Cal P w K mg base 5 "_law_square_root" c__law_square_root_31 := (cal_of T.d__law_square_root fun _ _ F => f__law_square_root_31 T F).mono (by decide)
  have C_index_of : Cal P w K mg base 5 "index_of" c_index_of_21 := (cal_of T.d_index_of fun _ _ F => f_index_of_21 T F).mono (by decide)
  exact (sss_cons (xSt 2 sc.nd (xCl C__law_pairs hr tk (xA1 (xV 0) (xA1 se_int sa_nil))))
      (sss_cons (xFo hp rfl (xR1 T.b_range (xA1 (xV 1) sa_nil)) (xGN 3 sc.nd) (sss_cons (xSt 4 sc.nd (xBi op_oAdd se_int (xBi op_oMul (xBi op_oMul (xBi op_oSub (xBi op_oMul (xV 0) (xV 0)) se_int) (xV 3)) (xV 3))))
      (sss_cons (xSt 5 sc.nd (xCl C__law_square_root hr tk (xA1 (xV 4) sa_nil)))
      (sss_cons (xSt 6 sc.nd (se_ifE (xTCm (op_oEq hr.r) (xBi op_oMul (xV 5) (xV 5)) (xV 4)) (xMe (t := .list) (mt_mIndex hr) PySem.F.plainAttrs_list PySem.F.slot_list_index PySem.F.type_list_index (xV 2) (xA1 (se_tup (xA1 (xV 5) (xA1 (xV 3) sa_nil))) sa_nil)) se_non))
      (sss_cons (ss_if (xTW (sw_or (xTCm (op_oNe hr.r) (xBf (call_oRepr hr T.nd) b_repr T.b_repr (xA1 (xCl C_index_of hr tk (xA1 (xV 0) (xA1 (xV 5) (xA1 (xV 3) sa_nil)))) sa_nil)) (xBf (call_oRepr hr T.nd) b_repr T.b_repr (xA1 (xV 6) sa_nil))) (sw_one_or (xTCm (op_oNe hr.r) (xCm (op_oEq hr.r) (xBi op_oMul (xV 5) (xV 5)) (xV 4)) (xCm (op_oIn hr.r) (se_tup (xA1 (xV 5) (xA1 (xV 3) sa_nil))) (xV 2)))))) (sss_cons (ss_ret se_bl)
      sss_nil) sss_nil)
      sss_nil)))))
      (sss_cons (ss_ret se_bl)
      sss_nil)))
theorem f__law_right_34 (T : Tx K mg) {f : Addr} {fd : FuncData} (F : Fun K "_law_right" "_law_right" (top 34) f fd) : FnG P w K mg base 7 f fd ["pot"] (spD K mg c__law_right_34) := by
  refine def_g (N := ["pot", "step", "pairs", "number", "x", "y", "value", "other", "one", "lap"]) (b := m__law_right_34) F s__law_right_34 rfl fun cdv A outer s H E X hX hr tk hp => ?_
  subst hX
  have sc := s__law_right_34
  have C__law_are_great_right : Cal P w K mg base 6 "_law_are_great_right" c__law_are_great_right_33 := (cal_of T.d__law_are_great_right fun _ _ F => f__law_are_great_right_33 T F).mono (by decide)
  have C__law_are_solved : Cal P w K mg base 6 "_law_are_solved" c__law_are_solved_32 := (cal_of T.d__law_are_solved fun _ _ F => f__law_are_solved_32 T F).mono (by decide)
  have C__law_pairs : Cal P w K mg base 6 "_law_pairs" c__law_pairs_30 := (cal_of T.d__law_pairs fun _ _ F => f__law_pairs_30 T F).mono (by decide)
  have C__law_take : Cal P w K mg base 6 "_law_take" c__law_take_27 := (cal_of T.d__law_take fun _ _ F => f__law_take_27 T F).mono (by decide)
  have C_doubled : Cal P w K mg base 6 "doubled" c_doubled_23 := (cal_of T.d_doubled fun _ _ F => f_doubled_23 T F).mono (by decide)
  have C_index_of : Cal P w K mg base 6 "index_of" c_index_of_21 := (cal_of T.d_index_of fun _ _ F => f_index_of_21 T F).mono (by decide)
  have C_pell : Cal P w K mg base 6 "pell" c_pell_18 := (cal_of T.d_pell fun _ _ F => f_pell_18 T F).mono (by decide)
  have C_summed : Cal P w K mg base 6 "summed" c_summed_24 := (cal_of T.d_summed fun _ _ F => f_summed_24 T F).mono (by decide)
  have K_pell_0_index_step : CalK P w K mg base 6 "pell" c_pell_18 0 ["index", "step"] [1, 0] := (calK_of T.d_pell (fun _ _ F => f_pell_18 T F) fun _ _ _ _ _ _ us ws h1 h2 => match us, ws, h1, h2 with | [], [_, _], _, _ => rfl).mono (by decide)
  exact (sss_cons (xSt 1 sc.nd (xBi op_oAdd se_int (xCl C__law_take hr tk (xA1 (xV 0) (xA1 se_int sa_nil)))))
      (sss_cons (xSt 2 sc.nd (xCl C__law_pairs hr tk (xA1 (xV 1) (xA1 se_int sa_nil))))
      (sss_cons (xFo hp rfl (si_any (xBi op_oAdd (se_lst (xA1 se_int (xA1 se_int (xA1 se_int sa_nil)))) (xCo [("lap", 9)] ["pot", "step", "pairs", "number", "x", "y", "value", "other", "one", "lap"] (defScope (top 34)) rfl sc.nd (by decide +kernel) (xR1 T.b_range (xA1 se_int sa_nil)) (fun _ _ _ _ _ => (xcN 9 sc.nd)) (fun _ _ _ _ _ => pts_nil') (fun _ _ _ _ _ => (xCl C__law_take hr tkN (xA1 (xV 0) (xA1 se_int sa_nil))))))) (xGN 3 sc.nd) (sss_cons (xAs (xIx (xV 2) (xV 3)) (xGTu 2 rfl (xG1 (xGN 4 sc.nd) (xG1 (xGN 5 sc.nd) sgs_nil))))
      (sss_cons (ss_if (xTW (sw_or (xTCm (op_oNe hr.r) (xBf (call_oRepr hr T.nd) b_repr T.b_repr (xA1 (xKw0 K_pell_0_index_step hr tk (sk_cons (xV 3) (sk_cons (xV 1) sk_nil))) sa_nil)) (xBf (call_oRepr hr T.nd) b_repr T.b_repr (xA1 (se_tup (xA1 (xV 4) (xA1 (xV 5) sa_nil))) sa_nil))) (sw_one_or (xTCm (op_oNe hr.r) (xBf (call_oRepr hr T.nd) b_repr T.b_repr (xA1 (xCl C_index_of hr tk (xA1 (xV 1) (xA1 (xV 4) (xA1 (xV 5) sa_nil)))) sa_nil)) (xBf (call_oRepr hr T.nd) b_repr T.b_repr (xA1 (xV 3) sa_nil)))))) (sss_cons (ss_ret se_bl)
      sss_nil) sss_nil)
      (sss_cons (ss_if (xTW (sw_or (xTCm op_oIsNot (xCl C_index_of hr tk (xA1 (xV 1) (xA1 (xBi op_oSub se_int (xV 4)) (xA1 (xV 5) sa_nil)))) se_non) (sw_one_or (xTCm op_oIsNot (xCl C_index_of hr tk (xA1 (xV 1) (xA1 (xV 4) (xA1 (xBi op_oAdd (xV 5) se_int) sa_nil)))) se_non)))) (sss_cons (ss_ret se_bl)
      sss_nil) sss_nil)
      (sss_cons (ss_if (xTCm (op_oNe hr.r) (xBf (call_oRepr hr T.nd) b_repr T.b_repr (xA1 (xCl C_doubled hr tk (xA1 (xV 1) (xA1 (se_tup (xA1 (xV 4) (xA1 (xV 5) sa_nil))) sa_nil))) sa_nil)) (xBf (call_oRepr hr T.nd) b_repr T.b_repr (xA1 (se_tup (xA1 (xBi op_oSub (xBi op_oMul (xBi op_oMul se_int (xV 4)) (xV 4)) se_int) (xA1 (xBi op_oMul (xBi op_oMul se_int (xV 4)) (xV 5)) sa_nil))) sa_nil))) (sss_cons (ss_ret se_bl)
      sss_nil) sss_nil)
      sss_nil)))))
      (sss_cons (xFo hp rfl (si_any (se_tup (xA1 (se_tup (xA1 se_non (xA1 se_int sa_nil))) (xA1 (se_tup (xA1 se_bl (xA1 se_int sa_nil))) (xA1 (se_tup (xA1 se_int (xA1 se_bl sa_nil))) (xA1 (se_tup (xA1 (xCS z0_eq) (xA1 se_int sa_nil))) (xA1 (se_tup (xA1 se_int (xA1 se_non sa_nil))) (xA1 (se_tup (xA1 (se_tup (xA1 se_int sa_nil)) (xA1 se_int sa_nil))) (xA1 (se_tup (xA1 se_int (xA1 (se_un op_oNeg se_int) sa_nil))) (xA1 (se_tup (xA1 (xIx (xIx (xV 2) se_int) se_int) (xA1 se_bl sa_nil))) (xA1 (se_tup (xA1 se_int (xA1 se_int sa_nil))) (xA1 (se_tup (xA1 (se_lst (xA1 se_int sa_nil)) (xA1 se_int sa_nil))) sa_nil)))))))))))) (xGTu 2 rfl (xG1 (xGN 6 sc.nd) (xG1 (xGN 7 sc.nd) sgs_nil))) (sss_cons (ss_if (xTCm op_oIsNot (xCl C_index_of hr tk (xA1 (xV 1) (xA1 (xV 6) (xA1 (xV 7) sa_nil)))) se_non) (sss_cons (ss_ret se_bl)
      sss_nil) sss_nil)
      sss_nil))
      (sss_cons (xP2 rfl sc.nd 8 7 (xA1 (xCl C__law_take hr tk (xA1 (xV 0) (xA1 se_int sa_nil))) (xA1 (xCl C__law_take hr tk (xA1 (xV 0) (xA1 se_int sa_nil))) sa_nil)))
      (sss_cons (ss_if (xTCm (op_oNe hr.r) (xBf (call_oRepr hr T.nd) b_repr T.b_repr (xA1 (xCl C_summed hr tk (xA1 (xV 1) (xA1 (xIx (xV 2) (xV 8)) (xA1 (xIx (xV 2) (xV 7)) sa_nil)))) sa_nil)) (xBf (call_oRepr hr T.nd) b_repr T.b_repr (xA1 (xIx (xV 2) (xBi op_oAdd (xV 8) (xV 7))) sa_nil))) (sss_cons (ss_ret se_bl)
      sss_nil) sss_nil)
      (sss_cons (ss_ret (se_and (xCl C__law_are_solved hr tk (xA1 (xV 1) (xA1 (xBi op_oAdd se_int (xCl C__law_take hr tk (xA1 (xV 0) (xA1 se_int sa_nil)))) sa_nil))) (se_one (xCl C__law_are_great_right hr tk (xA1 (xV 0) (xA1 (xV 1) (xA1 (xV 2) sa_nil)))))))
      sss_nil)))))))
theorem f_law_35 (T : Tx K mg) {f : Addr} {fd : FuncData} (F : Fun K "law" "law" (top 35) f fd) : FnG P w K mg base 8 f fd ["script"] (spD K mg c_law_35) := by
  refine def_g (N := ["script", "place"]) (b := m_law_35) F s_law_35 rfl fun cdv A outer s H E X hX hr tk hp => ?_
  subst hX
  have sc := s_law_35
  have C__law_cells : Cal P w K mg base 7 "_law_cells" c__law_cells_28 := (cal_of T.d__law_cells fun _ _ F => f__law_cells_28 T F).mono (by decide)
  have C__law_pot : Cal P w K mg base 7 "_law_pot" c__law_pot_26 := (cal_of T.d__law_pot fun _ _ F => f__law_pot_26 T F).mono (by decide)
  have C__law_right : Cal P w K mg base 7 "_law_right" c__law_right_34 := (cal_of T.d__law_right fun _ _ F => f__law_right_34 T F).mono (by decide)
  exact (sss_cons (ss_ret (xBf (call_oAll rfl) b_all T.b_all (xA1 (xCo [("place", 1)] ["script", "place"] (defScope (top 35)) rfl sc.nd (by decide +kernel) (si_any (xCl C__law_cells hr tk (xA1 (xV 0) (xA1 se_int sa_nil)))) (fun _ _ _ _ _ => (xcN 1 sc.nd)) (fun _ _ _ _ _ => pts_nil') (fun _ _ _ _ _ => (xCl C__law_right hr tkN (xA1 (xCl C__law_pot hr tkN (xA1 (xV 0) (xA1 (xV 1) sa_nil))) sa_nil)))) sa_nil)))
      sss_nil)
end
theorem tx_mk {K : PySem.W.Frag} {h : Heap} {mg : Str → Option Value} (X : K.In h) (G : h.Ns mainGlobals mg)
    {t0 : Tok} {t1 : Tok} {t2 : Tok} {t3 : Tok} {f0 : Addr} {od0 an0 : Option Addr} {sl0 : Array (Option Value)} {oc0 kV0 dc0 pm0 cd0 ct0 : Value} {f1 : Addr} {od1 an1 : Option Addr} {sl1 : Array (Option Value)} {oc1 kV1 dc1 pm1 cd1 ct1 : Value} {f2 : Addr} {od2 an2 : Option Addr} {sl2 : Array (Option Value)} {oc2 kV2 dc2 pm2 cd2 ct2 : Value} {f3 : Addr} {od3 an3 : Option Addr} {sl3 : Array (Option Value)} {oc3 kV3 dc3 pm3 cd3 ct3 : Value} {f4 : Addr} {od4 an4 : Option Addr} {sl4 : Array (Option Value)} {oc4 kV4 dc4 pm4 cd4 ct4 : Value} {f5 : Addr} {od5 an5 : Option Addr} {sl5 : Array (Option Value)} {oc5 kV5 dc5 pm5 cd5 ct5 : Value} {f6 : Addr} {od6 an6 : Option Addr} {sl6 : Array (Option Value)} {oc6 kV6 dc6 pm6 cd6 ct6 : Value} {f7 : Addr} {od7 an7 : Option Addr} {sl7 : Array (Option Value)} {oc7 kV7 dc7 pm7 cd7 ct7 : Value} {f8 : Addr} {od8 an8 : Option Addr} {sl8 : Array (Option Value)} {oc8 kV8 dc8 pm8 cd8 ct8 : Value} {f9 : Addr} {od9 an9 : Option Addr} {sl9 : Array (Option Value)} {oc9 kV9 dc9 pm9 cd9 ct9 : Value} {f10 : Addr} {od10 an10 : Option Addr} {sl10 : Array (Option Value)} {oc10 kV10 dc10 pm10 cd10 ct10 : Value} {f11 : Addr} {od11 an11 : Option Addr} {sl11 : Array (Option Value)} {oc11 kV11 dc11 pm11 cd11 ct11 : Value} {f12 : Addr} {od12 an12 : Option Addr} {sl12 : Array (Option Value)} {oc12 kV12 dc12 pm12 cd12 ct12 : Value} {f13 : Addr} {od13 an13 : Option Addr} {sl13 : Array (Option Value)} {oc13 kV13 dc13 pm13 cd13 ct13 : Value} {f14 : Addr} {od14 an14 : Option Addr} {sl14 : Array (Option Value)} {oc14 kV14 dc14 pm14 cd14 ct14 : Value} {f15 : Addr} {od15 an15 : Option Addr} {sl15 : Array (Option Value)} {oc15 kV15 dc15 pm15 cd15 ct15 : Value} {f16 : Addr} {od16 an16 : Option Addr} {sl16 : Array (Option Value)} {oc16 kV16 dc16 pm16 cd16 ct16 : Value} {f17 : Addr} {od17 an17 : Option Addr} {sl17 : Array (Option Value)} {oc17 kV17 dc17 pm17 cd17 ct17 : Value} {f18 : Addr} {od18 an18 : Option Addr} {sl18 : Array (Option Value)} {oc18 kV18 dc18 pm18 cd18 ct18 : Value} {f19 : Addr} {od19 an19 : Option Addr} {sl19 : Array (Option Value)} {oc19 kV19 dc19 pm19 cd19 ct19 : Value} {f20 : Addr} {od20 an20 : Option Addr} {sl20 : Array (Option Value)} {oc20 kV20 dc20 pm20 cd20 ct20 : Value} {f21 : Addr} {od21 an21 : Option Addr} {sl21 : Array (Option Value)} {oc21 kV21 dc21 pm21 cd21 ct21 : Value} {f22 : Addr} {od22 an22 : Option Addr} {sl22 : Array (Option Value)} {oc22 kV22 dc22 pm22 cd22 ct22 : Value} {f23 : Addr} {od23 an23 : Option Addr} {sl23 : Array (Option Value)} {oc23 kV23 dc23 pm23 cd23 ct23 : Value}
    (cs : PySem.W.nsIn K cStatics "sys.int_max_str_digits" = some none)
    (zb_abs : PySem.W.nsIn K mainGlobals "abs" = some none)
    (zb_all : PySem.W.nsIn K mainGlobals "all" = some none)
    (zb_bool : PySem.W.nsIn K mainGlobals "bool" = some none)
    (zb_int : PySem.W.nsIn K mainGlobals "int" = some none)
    (zb_isinstance : PySem.W.nsIn K mainGlobals "isinstance" = some none)
    (zb_len : PySem.W.nsIn K mainGlobals "len" = some none)
    (zb_list : PySem.W.nsIn K mainGlobals "list" = some none)
    (zb_max : PySem.W.nsIn K mainGlobals "max" = some none)
    (zb_min : PySem.W.nsIn K mainGlobals "min" = some none)
    (zb_range : PySem.W.nsIn K mainGlobals "range" = some none)
    (zb_repr : PySem.W.nsIn K mainGlobals "repr" = some none)
    (zb_sum : PySem.W.nsIn K mainGlobals "sum" = some none)
    (zb_tuple : PySem.W.nsIn K mainGlobals "tuple" = some none)
    (zg_LEAST_STEP : PySem.W.nsIn K mainGlobals "LEAST_STEP" = some (some (.int 2 t0)))
    (zg_MOST_INDEX : PySem.W.nsIn K mainGlobals "MOST_INDEX" = some (some (.int 200 t1)))
    (zg_MOST_STEP : PySem.W.nsIn K mainGlobals "MOST_STEP" = some (some (.int 20 t2)))
    (zg_PAIR : PySem.W.nsIn K mainGlobals "PAIR" = some (some (.int 2 t3)))
    (a0_0 : PySem.W.nsIn K mainGlobals "_law_are_great_right" = some (some (.ref f0)))
    (l0 : K.lookup f0 = some ⟨oc0, od0, .func (PySem.W.fnOf "_law_are_great_right" "_law_are_great_right" (defArgs (top 33)) (defBody (top 33)) (defScope (top 33)) .none kV0 dc0 pm0 an0 cd0 ct0), sl0⟩)
    (q0 : PySem.W.codeIn K cd0 "_law_are_great_right" = true)
    (k0 : PySem.W.keepIn K (.ref f0) = true)
    (a1_0 : PySem.W.nsIn K mainGlobals "_law_are_solved" = some (some (.ref f1)))
    (l1 : K.lookup f1 = some ⟨oc1, od1, .func (PySem.W.fnOf "_law_are_solved" "_law_are_solved" (defArgs (top 32)) (defBody (top 32)) (defScope (top 32)) .none kV1 dc1 pm1 an1 cd1 ct1), sl1⟩)
    (q1 : PySem.W.codeIn K cd1 "_law_are_solved" = true)
    (k1 : PySem.W.keepIn K (.ref f1) = true)
    (a2_0 : PySem.W.nsIn K mainGlobals "_law_cells" = some (some (.ref f2)))
    (l2 : K.lookup f2 = some ⟨oc2, od2, .func (PySem.W.fnOf "_law_cells" "_law_cells" (defArgs (top 28)) (defBody (top 28)) (defScope (top 28)) .none kV2 dc2 pm2 an2 cd2 ct2), sl2⟩)
    (q2 : PySem.W.codeIn K cd2 "_law_cells" = true)
    (k2 : PySem.W.keepIn K (.ref f2) = true)
    (a3_0 : PySem.W.nsIn K mainGlobals "_law_pairs" = some (some (.ref f3)))
    (l3 : K.lookup f3 = some ⟨oc3, od3, .func (PySem.W.fnOf "_law_pairs" "_law_pairs" (defArgs (top 30)) (defBody (top 30)) (defScope (top 30)) .none kV3 dc3 pm3 an3 cd3 ct3), sl3⟩)
    (q3 : PySem.W.codeIn K cd3 "_law_pairs" = true)
    (k3 : PySem.W.keepIn K (.ref f3) = true)
    (a4_0 : PySem.W.nsIn K mainGlobals "_law_pot" = some (some (.ref f4)))
    (l4 : K.lookup f4 = some ⟨oc4, od4, .func (PySem.W.fnOf "_law_pot" "_law_pot" (defArgs (top 26)) (defBody (top 26)) (defScope (top 26)) .none kV4 dc4 pm4 an4 cd4 ct4), sl4⟩)
    (q4 : PySem.W.codeIn K cd4 "_law_pot" = true)
    (k4 : PySem.W.keepIn K (.ref f4) = true)
    (a5_0 : PySem.W.nsIn K mainGlobals "_law_raised" = some (some (.ref f5)))
    (l5 : K.lookup f5 = some ⟨oc5, od5, .func (PySem.W.fnOf "_law_raised" "_law_raised" (defArgs (top 29)) (defBody (top 29)) (defScope (top 29)) .none kV5 dc5 pm5 an5 cd5 ct5), sl5⟩)
    (q5 : PySem.W.codeIn K cd5 "_law_raised" = true)
    (k5 : PySem.W.keepIn K (.ref f5) = true)
    (a6_0 : PySem.W.nsIn K mainGlobals "_law_right" = some (some (.ref f6)))
    (l6 : K.lookup f6 = some ⟨oc6, od6, .func (PySem.W.fnOf "_law_right" "_law_right" (defArgs (top 34)) (defBody (top 34)) (defScope (top 34)) .none kV6 dc6 pm6 an6 cd6 ct6), sl6⟩)
    (q6 : PySem.W.codeIn K cd6 "_law_right" = true)
    (k6 : PySem.W.keepIn K (.ref f6) = true)
    (a7_0 : PySem.W.nsIn K mainGlobals "_law_square_root" = some (some (.ref f7)))
    (l7 : K.lookup f7 = some ⟨oc7, od7, .func (PySem.W.fnOf "_law_square_root" "_law_square_root" (defArgs (top 31)) (defBody (top 31)) (defScope (top 31)) .none kV7 dc7 pm7 an7 cd7 ct7), sl7⟩)
    (q7 : PySem.W.codeIn K cd7 "_law_square_root" = true)
    (k7 : PySem.W.keepIn K (.ref f7) = true)
    (a8_0 : PySem.W.nsIn K mainGlobals "_law_take" = some (some (.ref f8)))
    (l8 : K.lookup f8 = some ⟨oc8, od8, .func (PySem.W.fnOf "_law_take" "_law_take" (defArgs (top 27)) (defBody (top 27)) (defScope (top 27)) .none kV8 dc8 pm8 an8 cd8 ct8), sl8⟩)
    (q8 : PySem.W.codeIn K cd8 "_law_take" = true)
    (k8 : PySem.W.keepIn K (.ref f8) = true)
    (a9_0 : PySem.W.nsIn K mainGlobals "check_index" = some (some (.ref f9)))
    (l9 : K.lookup f9 = some ⟨oc9, od9, .func (PySem.W.fnOf "check_index" "check_index" (defArgs (top 16)) (defBody (top 16)) (defScope (top 16)) .none kV9 dc9 pm9 an9 cd9 ct9), sl9⟩)
    (q9 : PySem.W.codeIn K cd9 "check_index" = true)
    (k9 : PySem.W.keepIn K (.ref f9) = true)
    (a10_0 : PySem.W.nsIn K mainGlobals "check_pair" = some (some (.ref f10)))
    (l10 : K.lookup f10 = some ⟨oc10, od10, .func (PySem.W.fnOf "check_pair" "check_pair" (defArgs (top 22)) (defBody (top 22)) (defScope (top 22)) .none kV10 dc10 pm10 an10 cd10 ct10), sl10⟩)
    (q10 : PySem.W.codeIn K cd10 "check_pair" = true)
    (k10 : PySem.W.keepIn K (.ref f10) = true)
    (a11_0 : PySem.W.nsIn K mainGlobals "check_step" = some (some (.ref f11)))
    (l11 : K.lookup f11 = some ⟨oc11, od11, .func (PySem.W.fnOf "check_step" "check_step" (defArgs (top 15)) (defBody (top 15)) (defScope (top 15)) .none kV11 dc11 pm11 an11 cd11 ct11), sl11⟩)
    (q11 : PySem.W.codeIn K cd11 "check_step" = true)
    (k11 : PySem.W.keepIn K (.ref f11) = true)
    (a12_0 : PySem.W.nsIn K mainGlobals "doubled" = some (some (.ref f12)))
    (l12 : K.lookup f12 = some ⟨oc12, od12, .func (PySem.W.fnOf "doubled" "doubled" (defArgs (top 23)) (defBody (top 23)) (defScope (top 23)) .none kV12 dc12 pm12 an12 cd12 ct12), sl12⟩)
    (q12 : PySem.W.codeIn K cd12 "doubled" = true)
    (k12 : PySem.W.keepIn K (.ref f12) = true)
    (a13_0 : PySem.W.nsIn K mainGlobals "index_of" = some (some (.ref f13)))
    (l13 : K.lookup f13 = some ⟨oc13, od13, .func (PySem.W.fnOf "index_of" "index_of" (defArgs (top 21)) (defBody (top 21)) (defScope (top 21)) .none kV13 dc13 pm13 an13 cd13 ct13), sl13⟩)
    (q13 : PySem.W.codeIn K cd13 "index_of" = true)
    (k13 : PySem.W.keepIn K (.ref f13) = true)
    (a14_0 : PySem.W.nsIn K mainGlobals "is_integer" = some (some (.ref f14)))
    (l14 : K.lookup f14 = some ⟨oc14, od14, .func (PySem.W.fnOf "is_integer" "is_integer" (defArgs (top 8)) (defBody (top 8)) (defScope (top 8)) .none kV14 dc14 pm14 an14 cd14 ct14), sl14⟩)
    (q14 : PySem.W.codeIn K cd14 "is_integer" = true)
    (k14 : PySem.W.keepIn K (.ref f14) = true)
    (a15_0 : PySem.W.nsIn K mainGlobals "is_natural" = some (some (.ref f15)))
    (l15 : K.lookup f15 = some ⟨oc15, od15, .func (PySem.W.fnOf "is_natural" "is_natural" (defArgs (top 9)) (defBody (top 9)) (defScope (top 9)) .none kV15 dc15 pm15 an15 cd15 ct15), sl15⟩)
    (q15 : PySem.W.codeIn K cd15 "is_natural" = true)
    (k15 : PySem.W.keepIn K (.ref f15) = true)
    (a16_0 : PySem.W.nsIn K mainGlobals "is_pair" = some (some (.ref f16)))
    (l16 : K.lookup f16 = some ⟨oc16, od16, .func (PySem.W.fnOf "is_pair" "is_pair" (defArgs (top 19)) (defBody (top 19)) (defScope (top 19)) .none kV16 dc16 pm16 an16 cd16 ct16), sl16⟩)
    (q16 : PySem.W.codeIn K cd16 "is_pair" = true)
    (k16 : PySem.W.keepIn K (.ref f16) = true)
    (a17_0 : PySem.W.nsIn K mainGlobals "is_tuple" = some (some (.ref f17)))
    (l17 : K.lookup f17 = some ⟨oc17, od17, .func (PySem.W.fnOf "is_tuple" "is_tuple" (defArgs (top 10)) (defBody (top 10)) (defScope (top 10)) .none kV17 dc17 pm17 an17 cd17 ct17), sl17⟩)
    (q17 : PySem.W.codeIn K cd17 "is_tuple" = true)
    (k17 : PySem.W.keepIn K (.ref f17) = true)
    (a18_0 : PySem.W.nsIn K mainGlobals "is_whole" = some (some (.ref f18)))
    (l18 : K.lookup f18 = some ⟨oc18, od18, .func (PySem.W.fnOf "is_whole" "is_whole" (defArgs (top 7)) (defBody (top 7)) (defScope (top 7)) .none kV18 dc18 pm18 an18 cd18 ct18), sl18⟩)
    (q18 : PySem.W.codeIn K cd18 "is_whole" = true)
    (k18 : PySem.W.keepIn K (.ref f18) = true)
    (a19_0 : PySem.W.nsIn K mainGlobals "law" = some (some (.ref f19)))
    (l19 : K.lookup f19 = some ⟨oc19, od19, .func (PySem.W.fnOf "law" "law" (defArgs (top 35)) (defBody (top 35)) (defScope (top 35)) .none kV19 dc19 pm19 an19 cd19 ct19), sl19⟩)
    (q19 : PySem.W.codeIn K cd19 "law" = true)
    (k19 : PySem.W.keepIn K (.ref f19) = true)
    (a20_0 : PySem.W.nsIn K mainGlobals "number_of" = some (some (.ref f20)))
    (l20 : K.lookup f20 = some ⟨oc20, od20, .func (PySem.W.fnOf "number_of" "number_of" (defArgs (top 20)) (defBody (top 20)) (defScope (top 20)) .none kV20 dc20 pm20 an20 cd20 ct20), sl20⟩)
    (q20 : PySem.W.codeIn K cd20 "number_of" = true)
    (k20 : PySem.W.keepIn K (.ref f20) = true)
    (a21_0 : PySem.W.nsIn K mainGlobals "pair_at" = some (some (.ref f21)))
    (l21 : K.lookup f21 = some ⟨oc21, od21, .func (PySem.W.fnOf "pair_at" "pair_at" (defArgs (top 17)) (defBody (top 17)) (defScope (top 17)) .none kV21 dc21 pm21 an21 cd21 ct21), sl21⟩)
    (q21 : PySem.W.codeIn K cd21 "pair_at" = true)
    (k21 : PySem.W.keepIn K (.ref f21) = true)
    (a22_0 : PySem.W.nsIn K mainGlobals "pell" = some (some (.ref f22)))
    (l22 : K.lookup f22 = some ⟨oc22, od22, .func (PySem.W.fnOf "pell" "pell" (defArgs (top 18)) (defBody (top 18)) (defScope (top 18)) .none kV22 dc22 pm22 an22 cd22 ct22), sl22⟩)
    (q22 : PySem.W.codeIn K cd22 "pell" = true)
    (k22 : PySem.W.keepIn K (.ref f22) = true)
    (a23_0 : PySem.W.nsIn K mainGlobals "summed" = some (some (.ref f23)))
    (l23 : K.lookup f23 = some ⟨oc23, od23, .func (PySem.W.fnOf "summed" "summed" (defArgs (top 24)) (defBody (top 24)) (defScope (top 24)) .none kV23 dc23 pm23 an23 cd23 ct23), sl23⟩)
    (q23 : PySem.W.codeIn K cd23 "summed" = true)
    (k23 : PySem.W.keepIn K (.ref f23) = true) : Tx K mg where
  nd := noDig_of cs
  b_abs := PySem.W.mg_none_of X G zb_abs
  b_all := PySem.W.mg_none_of X G zb_all
  b_bool := PySem.W.mg_none_of X G zb_bool
  b_int := PySem.W.mg_none_of X G zb_int
  b_isinstance := PySem.W.mg_none_of X G zb_isinstance
  b_len := PySem.W.mg_none_of X G zb_len
  b_list := PySem.W.mg_none_of X G zb_list
  b_max := PySem.W.mg_none_of X G zb_max
  b_min := PySem.W.mg_none_of X G zb_min
  b_range := PySem.W.mg_none_of X G zb_range
  b_repr := PySem.W.mg_none_of X G zb_repr
  b_sum := PySem.W.mg_none_of X G zb_sum
  b_tuple := PySem.W.mg_none_of X G zb_tuple
  g_LEAST_STEP := ⟨_, PySem.W.mg_of X G zg_LEAST_STEP⟩
  g_MOST_INDEX := ⟨_, PySem.W.mg_of X G zg_MOST_INDEX⟩
  g_MOST_STEP := ⟨_, PySem.W.mg_of X G zg_MOST_STEP⟩
  g_PAIR := ⟨_, PySem.W.mg_of X G zg_PAIR⟩
  d__law_are_great_right := ⟨_, _, PySem.W.mg_of X G a0_0, fun_mk (st := (top 33)) l0 q0 k0, (fun_mk (st := (top 33)) l0 q0 k0).binds fun _ _ _ _ _ _ us hl => match us, hl with | [_, _, _], _ => rfl⟩
  d__law_are_solved := ⟨_, _, PySem.W.mg_of X G a1_0, fun_mk (st := (top 32)) l1 q1 k1, (fun_mk (st := (top 32)) l1 q1 k1).binds fun _ _ _ _ _ _ us hl => match us, hl with | [_, _], _ => rfl⟩
  d__law_cells := ⟨_, _, PySem.W.mg_of X G a2_0, fun_mk (st := (top 28)) l2 q2 k2, (fun_mk (st := (top 28)) l2 q2 k2).binds fun _ _ _ _ _ _ us hl => match us, hl with | [_, _], _ => rfl⟩
  d__law_pairs := ⟨_, _, PySem.W.mg_of X G a3_0, fun_mk (st := (top 30)) l3 q3 k3, (fun_mk (st := (top 30)) l3 q3 k3).binds fun _ _ _ _ _ _ us hl => match us, hl with | [_, _], _ => rfl⟩
  d__law_pot := ⟨_, _, PySem.W.mg_of X G a4_0, fun_mk (st := (top 26)) l4 q4 k4, (fun_mk (st := (top 26)) l4 q4 k4).binds fun _ _ _ _ _ _ us hl => match us, hl with | [_, _], _ => rfl⟩
  d__law_raised := ⟨_, _, PySem.W.mg_of X G a5_0, fun_mk (st := (top 29)) l5 q5 k5, (fun_mk (st := (top 29)) l5 q5 k5).binds fun _ _ _ _ _ _ us hl => match us, hl with | [_, _], _ => rfl⟩
  d__law_right := ⟨_, _, PySem.W.mg_of X G a6_0, fun_mk (st := (top 34)) l6 q6 k6, (fun_mk (st := (top 34)) l6 q6 k6).binds fun _ _ _ _ _ _ us hl => match us, hl with | [_], _ => rfl⟩
  d__law_square_root := ⟨_, _, PySem.W.mg_of X G a7_0, fun_mk (st := (top 31)) l7 q7 k7, (fun_mk (st := (top 31)) l7 q7 k7).binds fun _ _ _ _ _ _ us hl => match us, hl with | [_], _ => rfl⟩
  d__law_take := ⟨_, _, PySem.W.mg_of X G a8_0, fun_mk (st := (top 27)) l8 q8 k8, (fun_mk (st := (top 27)) l8 q8 k8).binds fun _ _ _ _ _ _ us hl => match us, hl with | [_, _], _ => rfl⟩
  d_check_index := ⟨_, _, PySem.W.mg_of X G a9_0, fun_mk (st := (top 16)) l9 q9 k9, (fun_mk (st := (top 16)) l9 q9 k9).binds fun _ _ _ _ _ _ us hl => match us, hl with | [_, _], _ => rfl⟩
  d_check_pair := ⟨_, _, PySem.W.mg_of X G a10_0, fun_mk (st := (top 22)) l10 q10 k10, (fun_mk (st := (top 22)) l10 q10 k10).binds fun _ _ _ _ _ _ us hl => match us, hl with | [_, _], _ => rfl⟩
  d_check_step := ⟨_, _, PySem.W.mg_of X G a11_0, fun_mk (st := (top 15)) l11 q11 k11, (fun_mk (st := (top 15)) l11 q11 k11).binds fun _ _ _ _ _ _ us hl => match us, hl with | [_], _ => rfl⟩
  d_doubled := ⟨_, _, PySem.W.mg_of X G a12_0, fun_mk (st := (top 23)) l12 q12 k12, (fun_mk (st := (top 23)) l12 q12 k12).binds fun _ _ _ _ _ _ us hl => match us, hl with | [_, _], _ => rfl⟩
  d_index_of := ⟨_, _, PySem.W.mg_of X G a13_0, fun_mk (st := (top 21)) l13 q13 k13, (fun_mk (st := (top 21)) l13 q13 k13).binds fun _ _ _ _ _ _ us hl => match us, hl with | [_, _, _], _ => rfl⟩
  d_is_integer := ⟨_, _, PySem.W.mg_of X G a14_0, fun_mk (st := (top 8)) l14 q14 k14, (fun_mk (st := (top 8)) l14 q14 k14).binds fun _ _ _ _ _ _ us hl => match us, hl with | [_, _, _], _ => rfl⟩
  d_is_natural := ⟨_, _, PySem.W.mg_of X G a15_0, fun_mk (st := (top 9)) l15 q15 k15, (fun_mk (st := (top 9)) l15 q15 k15).binds fun _ _ _ _ _ _ us hl => match us, hl with | [_], _ => rfl⟩
  d_is_pair := ⟨_, _, PySem.W.mg_of X G a16_0, fun_mk (st := (top 19)) l16 q16 k16, (fun_mk (st := (top 19)) l16 q16 k16).binds fun _ _ _ _ _ _ us hl => match us, hl with | [_, _, _], _ => rfl⟩
  d_is_tuple := ⟨_, _, PySem.W.mg_of X G a17_0, fun_mk (st := (top 10)) l17 q17 k17, (fun_mk (st := (top 10)) l17 q17 k17).binds fun _ _ _ _ _ _ us hl => match us, hl with | [_, _, _], _ => rfl⟩
  d_is_whole := ⟨_, _, PySem.W.mg_of X G a18_0, fun_mk (st := (top 7)) l18 q18 k18, (fun_mk (st := (top 7)) l18 q18 k18).binds fun _ _ _ _ _ _ us hl => match us, hl with | [_], _ => rfl⟩
  d_law := ⟨_, _, PySem.W.mg_of X G a19_0, fun_mk (st := (top 35)) l19 q19 k19, (fun_mk (st := (top 35)) l19 q19 k19).binds fun _ _ _ _ _ _ us hl => match us, hl with | [_], _ => rfl⟩
  d_number_of := ⟨_, _, PySem.W.mg_of X G a20_0, fun_mk (st := (top 20)) l20 q20 k20, (fun_mk (st := (top 20)) l20 q20 k20).binds fun _ _ _ _ _ _ us hl => match us, hl with | [_, _, _], _ => rfl⟩
  d_pair_at := ⟨_, _, PySem.W.mg_of X G a21_0, fun_mk (st := (top 17)) l21 q21 k21, (fun_mk (st := (top 17)) l21 q21 k21).binds fun _ _ _ _ _ _ us hl => match us, hl with | [_, _], _ => rfl⟩
  d_pell := ⟨_, _, PySem.W.mg_of X G a22_0, fun_mk (st := (top 18)) l22 q22 k22, (fun_mk (st := (top 18)) l22 q22 k22).binds fun _ _ _ _ _ _ us hl => match us, hl with | [_, _], _ => rfl⟩
  d_summed := ⟨_, _, PySem.W.mg_of X G a23_0, fun_mk (st := (top 24)) l23 q23 k23, (fun_mk (st := (top 24)) l23 q23 k23).binds fun _ _ _ _ _ _ us hl => match us, hl with | [_, _, _], _ => rfl⟩
theorem walk {l : PySem.W.OpenLaw} {q : Program} {loose : List Str} {XP : (Str → Option Value) → Heap → Prop} {YP : World → Heap → Prop} {d : DefRec} {K : Params → PySem.W.Frag} (hn : l.most = some 63) (hdf : d.params.defaults = []) (hd : d.name = "law")
    (hY : ∀ (w : World) (h : Heap), YP w h → (K w.params).In h) (F : ∀ (w : World) (mg : Str → Option Value) (h : Heap), (K w.params).In h → h.Ns mainGlobals mg → Tx (K w.params) mg)
    (L : ∀ ns : List Int, ns.length ≤ 63 → (∀ z ∈ ns, Builtin.Int.intBits z ≤ 1048576) → ∃ S, c_law_35 [.rl (ns.map D.int)] [] = .ok (.bl true) S) :
    PySem.W.WalkO q loose XP YP l.row.toRowW d [] (fun f vs => PySem.call f vs) := by
  have gl : ∀ (K : PySem.W.Frag) (mg : Str → Option Value), Tx K mg → ∃ f fd, DefAt K mg "law" "law" (top 35) ["script"] f fd := fun K mg T => T.d_law
  refine walk_g (n := 63) (k := 8) (x := "script") (sp := fun w vs H Q E => ∃ (a : Addr) (ns : List Int), vs = [V.ref a] ∧ SqL (K w.params) H a (ns.map V.int) ∧ Only H ∧ ns.length ≤ 63 ∧ (∀ z ∈ ns, Builtin.Int.intBits z ≤ 1048576) ∧ ∀ H', Q (.bl true) H')
    hn (by decide) hdf ⟨rfl, by decide, by decide⟩ hY (fun w mg fa h KX G hmg => ?_) fun w H a ns hl hb hO hS => ⟨a, ns, rfl, hS, hO, hl, hb, fun _ => rfl⟩
  have T := F w mg h KX G
  obtain ⟨f, fd, D⟩ := gl _ _ T
  rw [hd] at hmg
  cases hmg.symm.trans D.gl
  refine ⟨fd, law_binds D.fn fun _ _ _ _ _ _ _ => rfl, fun base _ _ => ?_⟩
  exact law_fn (f_law_35 T D.fn) L
end Lw

namespace Lw
open PySem MP

/-! ### the pairs -/
def pp (a : Int) : Nat → Int × Int
  | 0 => (1, 0)
  | n + 1 => (a * (pp a n).1 + (a * a - 1) * (pp a n).2, (pp a n).1 + a * (pp a n).2)
theorem pp_eq (a : Int) : ∀ n, (pp a n).1 * (pp a n).1 - (a * a - 1) * (pp a n).2 * (pp a n).2 = 1
  | 0 => by simp [pp]
  | n + 1 => by
    have h := pp_eq a n
    show (a * (pp a n).1 + (a * a - 1) * (pp a n).2) * (a * (pp a n).1 + (a * a - 1) * (pp a n).2) - (a * a - 1) * ((pp a n).1 + a * (pp a n).2) * ((pp a n).1 + a * (pp a n).2) = 1
    generalize (pp a n).1 = x at *
    generalize (pp a n).2 = y at *
    generalize hb : a * a - 1 = b at *
    have e : a * a = b + 1 := by omega
    rw [← h]
    have e1 : (a * x + b * y) * (a * x + b * y) = (a * a) * (x * x) + (a * b * x * y + a * b * x * y) + b * b * (y * y) := by
      simp only [Int.add_mul, Int.mul_add]; simp only [Int.mul_assoc, Int.mul_comm, Int.mul_left_comm]; omega
    have e2 : b * (x + a * y) * (x + a * y) = b * (x * x) + (a * b * x * y + a * b * x * y) + b * ((a * a) * (y * y)) := by
      simp only [Int.add_mul, Int.mul_add]; simp only [Int.mul_assoc, Int.mul_comm, Int.mul_left_comm]; omega
    rw [e1, e2, e]
    have e3 : b * ((b + 1) * (y * y)) = b * b * (y * y) + b * (y * y) := by
      rw [Int.add_mul, Int.one_mul, Int.mul_add, Int.mul_assoc]
    have e4 : (b + 1) * (x * x) = b * (x * x) + x * x := by rw [Int.add_mul, Int.one_mul]
    have e5 : b * y * y = b * (y * y) := Int.mul_assoc _ _ _
    rw [e3, e4, e5]
    omega
theorem pp_pos {a : Int} (ha : 2 ≤ a) : ∀ n, 1 ≤ (pp a n).1 ∧ (n : Int) ≤ (pp a n).2
  | 0 => ⟨by simp [pp], by simp [pp]⟩
  | n + 1 => by
    obtain ⟨h1, h2⟩ := pp_pos ha n
    show 1 ≤ a * (pp a n).1 + (a * a - 1) * (pp a n).2 ∧ ((n + 1 : Nat) : Int) ≤ (pp a n).1 + a * (pp a n).2
    generalize (pp a n).1 = x at *
    generalize (pp a n).2 = y at *
    have h3 : 2 * x ≤ a * x := Int.mul_le_mul_of_nonneg_right ha (by omega)
    have h4 : 2 * 2 ≤ a * a := Int.mul_le_mul ha ha (by decide) (by omega)
    have h5 : 0 ≤ (a * a - 1) * y := Int.mul_nonneg (by omega) (by omega)
    have h6 : 2 * y ≤ a * y := Int.mul_le_mul_of_nonneg_right ha (by omega)
    omega
theorem pp_sm {a : Int} (h1 : 2 ≤ a) (h2 : a ≤ 20) : ∀ n, Sm (10 * n + 1) (pp a n).1 ∧ Sm (10 * n + 1) (pp a n).2
  | 0 => ⟨Sm.lit (i := 1) (n := 1), Sm.lit (i := 0) (n := 1)⟩
  | n + 1 => by
    obtain ⟨g1, g2⟩ := pp_sm h1 h2 n
    have sa : Sm 5 a := Sm.of_lt (by omega) (by omega)
    have haa : a * a ≤ 20 * 20 := Int.mul_le_mul h2 h2 (by omega) (by decide)
    have haa0 : 0 ≤ a * a := Int.mul_nonneg (by omega) (by omega)
    have h4 : 2 * 2 ≤ a * a := Int.mul_le_mul h1 h1 (by decide) (by omega)
    have sb : Sm 9 (a * a - 1) := Sm.of_lt (by omega) (by omega)
    exact ⟨(((sa.mul g1).mono (by omega)).add ((sb.mul g2).mono (m := 10 * n + 10) (by omega))).mono (by omega), ((g1.mono (m := 10 * n + 6) (by omega)).add ((sa.mul g2).mono (by omega))).mono (by omega)⟩
/-- one step back -/
theorem pp_back (a : Int) (n : Nat) : a * (pp a (n + 1)).1 - (a * a - 1) * (pp a (n + 1)).2 = (pp a n).1 ∧ a * (pp a (n + 1)).2 - (pp a (n + 1)).1 = (pp a n).2 := by
  show a * (a * (pp a n).1 + (a * a - 1) * (pp a n).2) - (a * a - 1) * ((pp a n).1 + a * (pp a n).2) = _ ∧ a * ((pp a n).1 + a * (pp a n).2) - (a * (pp a n).1 + (a * a - 1) * (pp a n).2) = _
  generalize (pp a n).1 = x
  generalize (pp a n).2 = y
  generalize hb : a * a - 1 = b
  have e : a * a = b + 1 := by omega
  constructor
  · rw [Int.mul_add, Int.mul_add, ← Int.mul_assoc, e, Int.add_mul, Int.one_mul]
    have : a * (b * y) = b * (a * y) := by simp only [Int.mul_left_comm]
    omega
  · rw [Int.mul_add, ← Int.mul_assoc, e, Int.add_mul, Int.one_mul]
    omega
/-- the sum of two places -/
theorem pp_add (a : Int) (m : Nat) : ∀ n, pp a (m + n) = ((pp a m).1 * (pp a n).1 + (a * a - 1) * (pp a m).2 * (pp a n).2, (pp a m).1 * (pp a n).2 + (pp a m).2 * (pp a n).1)
  | 0 => by simp [pp]
  | n + 1 => by
    have h := pp_add a m n
    show (a * (pp a (m + n)).1 + (a * a - 1) * (pp a (m + n)).2, (pp a (m + n)).1 + a * (pp a (m + n)).2) = ((pp a m).1 * (a * (pp a n).1 + (a * a - 1) * (pp a n).2) + (a * a - 1) * (pp a m).2 * ((pp a n).1 + a * (pp a n).2), (pp a m).1 * ((pp a n).1 + a * (pp a n).2) + (pp a m).2 * (a * (pp a n).1 + (a * a - 1) * (pp a n).2))
    rw [h]
    generalize (pp a n).1 = x
    generalize (pp a n).2 = y
    generalize (pp a m).1 = u
    generalize (pp a m).2 = v
    generalize a * a - 1 = b
    refine Prod.ext ?_ ?_
    · show a * (u * x + b * v * y) + b * (u * y + v * x) = u * (a * x + b * y) + b * v * (x + a * y)
      simp only [Int.mul_add]
      simp only [Int.mul_assoc, Int.mul_comm, Int.mul_left_comm]
      omega
    · show (u * x + b * v * y) + a * (u * y + v * x) = u * (x + a * y) + v * (a * x + b * y)
      simp only [Int.mul_add]
      simp only [Int.mul_assoc, Int.mul_comm, Int.mul_left_comm]
      omega
end Lw

namespace Lw
open PySem MP

theorem whole_int {i : Int} {S : Store} : c_is_whole_7 [.int i] S = .ok (.bl true) S := by
  unfold c_is_whole_7
  rw [cf_rt (S' := S) (d := .bl true), drop_self]
  simp [m_is_whole_7, show isTy .int .int = true from rfl, show isTy .int .bool = false from rfl]
theorem integer_int {i lo hi : Int} {S : Store} : c_is_integer_8 [.int i, .int lo, .int hi] S = .ok (.bl (decide (lo ≤ i) && decide (i ≤ hi))) S := by
  unfold c_is_integer_8
  rw [cf_rt (S' := S) (d := .bl (decide (lo ≤ i) && decide (i ≤ hi))), drop_self]
  by_cases h : lo ≤ i <;> simp [m_is_integer_8, whole_int, h]
theorem natural_int {i : Int} {S : Store} : c_is_natural_9 [.int i] S = .ok (.bl (decide (0 ≤ i))) S := by
  unfold c_is_natural_9
  rw [cf_rt (S' := S) (d := .bl (decide (0 ≤ i))), drop_self]
  simp [m_is_natural_9, whole_int]
theorem natural_no {d : D} {S : Store} {u : Ty} (h : tyD S d = some u) (hu : isTy u .int = false ∨ isTy u .bool = true) : c_is_natural_9 [d] S = .ok (.bl false) S := by
  have hw : c_is_whole_7 [d] S = .ok (.bl false) S := by
    unfold c_is_whole_7
    rw [cf_rt (S' := S) (d := .bl false), drop_self]
    rcases hu with hu | hu
    · simp [m_is_whole_7, h, hu]
    · cases hi : isTy u .int <;> simp [m_is_whole_7, h, hu, hi]
  unfold c_is_natural_9
  rw [cf_rt (S' := S) (d := .bl false), drop_self]
  simp [m_is_natural_9, hw]
theorem step_ok {a : Int} (h1 : 2 ≤ a) (h2 : a ≤ 20) {S : Store} : c_check_step_15 [.int a] S = .ok .non S := by
  unfold c_check_step_15
  rw [cf_nx (S' := S) (ρ := [some (.int a)]), drop_self]
  simp [m_check_step_15, integer_int, h1, h2]
theorem sq_cm {a : Int} (h1 : 2 ≤ a) (h2 : a ≤ 20) : Sm 5 a ∧ cMul a a = true ∧ Sm 9 (a * a - 1) := by
  have sa : Sm 5 a := Sm.of_lt (by omega) (by omega)
  have haa : a * a ≤ 20 * 20 := Int.mul_le_mul h2 h2 (by omega) (by decide)
  have h4 : 2 * 2 ≤ a * a := Int.mul_le_mul h1 h1 (by decide) (by omega)
  exact ⟨sa, sa.cMul sa (by decide), Sm.of_lt (by omega) (by omega)⟩
theorem pair_int {a x y : Int} (h1 : 2 ≤ a) (h2 : a ≤ 20) {n : Nat} (hx : Sm n x) (hy : Sm n y) (hn : n ≤ 1000000) {S : Store} :
    c_is_pair_19 [.int a, .int x, .int y] S = .ok (.bl (decide (0 ≤ x) && (decide (0 ≤ y) && (x * x - (a * a - 1) * y * y == 1)))) S := by
  obtain ⟨sa, d1, sb⟩ := sq_cm h1 h2
  have d2 := hx.cMul hx (by omega)
  have d3 := sb.cMul hy (by omega)
  have d4 := (sb.mul hy).cMul hy (by omega)
  unfold c_is_pair_19
  rw [cf_rt (S' := S) (d := .bl (decide (0 ≤ x) && (decide (0 ≤ y) && (x * x - (a * a - 1) * y * y == 1)))), drop_self]
  by_cases k1 : 0 ≤ x <;> by_cases k2 : 0 ≤ y <;> simp [m_is_pair_19, natural_int, k1, k2, d1, d2, d3, d4]
theorem pair_no1 {a d e : D} {S : Store} (h : c_is_natural_9 [d] S = .ok (.bl false) S) : c_is_pair_19 [a, d, e] S = .ok (.bl false) S := by
  unfold c_is_pair_19
  rw [cf_rt (S' := S) (d := .bl false), drop_self]
  simp [m_is_pair_19, h]
theorem pair_no2 {a d e : D} {S : Store} {b : Bool} (h : c_is_natural_9 [d] S = .ok (.bl b) S) (h' : c_is_natural_9 [e] S = .ok (.bl false) S) : c_is_pair_19 [a, d, e] S = .ok (.bl false) S := by
  unfold c_is_pair_19
  rw [cf_rt (S' := S) (d := .bl false), drop_self]
  cases b <;> simp [m_is_pair_19, h, h']
theorem index_no {a : Int} (h1 : 2 ≤ a) (h2 : a ≤ 20) {d e : D} {S : Store} (h : c_is_pair_19 [.int a, d, e] S = .ok (.bl false) S) : c_index_of_21 [.int a, d, e] S = .ok .non S := by
  have hn : c_number_of_20 [.int a, d, e] S = .ok .non S := by
    unfold c_number_of_20
    rw [cf_rt (S' := S) (d := .non), drop_self]
    simp [m_number_of_20, h]
  unfold c_index_of_21
  rw [cf_rt (S' := S) (d := .non), drop_self]
  simp [m_index_of_21, step_ok h1 h2, hn]
theorem pair_pp {a : Int} (h1 : 2 ≤ a) (h2 : a ≤ 20) (n : Nat) (hn : n ≤ 2000) {S : Store} : c_is_pair_19 [.int a, .int (pp a n).1, .int (pp a n).2] S = .ok (.bl true) S := by
  obtain ⟨s1, s2⟩ := pp_sm h1 h2 n
  obtain ⟨p1, p2⟩ := pp_pos h1 n
  rw [pair_int h1 h2 s1 s2 (by omega), pp_eq]
  have e1 : 0 ≤ (pp a n).1 := by omega
  have e2 : 0 ≤ (pp a n).2 := by omega
  simp [e1, e2]
theorem index_pp {a : Int} (h1 : 2 ≤ a) (h2 : a ≤ 20) (n : Nat) (hn : n ≤ 2000) {S : Store} : c_index_of_21 [.int a, .int (pp a n).1, .int (pp a n).2] S = .ok (.int n) S := by
  obtain ⟨sa, d1, sb⟩ := sq_cm h1 h2
  have hnum : c_number_of_20 [.int a, .int (pp a n).1, .int (pp a n).2] S = .ok (.int n) S := by
    obtain ⟨ρ', S', hw, hI⟩ := whileL_inv (t := (fB (f2 oGt (fVar 2) (fC (.int 0))))) (b := (sCons (sPar [1, 2] (aCons (f2 (oI oTrue fun i j => i - j) (f2 (oI cMul fun i j => i * j) (fVar 0) (fVar 1)) (f2 (oI cMul fun i j => i * j) (f2 (oI oTrue fun i j => i - j) (f2 (oI cMul fun i j => i * j) (fVar 0) (fVar 0)) (fC (.int 1))) (fVar 2))) (aCons (f2 (oI oTrue fun i j => i - j) (f2 (oI cMul fun i j => i * j) (fVar 0) (fVar 2)) (fVar 1)) aNil)))
      (sCons (sAug 3 (oI oTrue fun i j => i + j) (fC (.int 1)))
      sNil)))
      (fun m ρ T => m ≤ n ∧ T = S ∧ ρ = [some (.int a), some (.int (pp a m).1), some (.int (pp a m).2), some (.int ((n : Int) - m))])
      (fun m ρ T ⟨hm, hT, hρ⟩ => by
        subst hT hρ
        obtain ⟨s1, s2⟩ := pp_sm h1 h2 (m + 1)
        obtain ⟨p1, p2⟩ := pp_pos h1 (m + 1)
        have hg : (0 : Int) < (pp a (m + 1)).2 := by omega
        have d2 := sa.cMul s1 (by omega)
        have d3 := sb.cMul s2 (by omega)
        have d4 := sa.cMul s2 (by omega)
        obtain ⟨b1, b2⟩ := pp_back a m
        refine ⟨by simp [hg], [some (.int a), some (.int (pp a m).1), some (.int (pp a m).2), some (.int ((n : Int) - m))], T, ?_, by omega, rfl, rfl⟩
        have e : (n : Int) - ((m + 1 : Nat) : Int) + 1 = (n : Int) - m := by omega
        generalize pp a (m + 1) = q at *
        simp only [sCons_ap, sPar_ap, sAug_ap, aCons_ap, aNil_ap, f2_ap, fVar_ap, fC_ap, R.bind_ok, R.of_some, oI_int, d1, d2, d3, d4, if_true, List.getElem?_cons_zero, List.getElem?_cons_succ, withE_ok, then_nx, sNil_ap, b1, b2, List.length_cons, List.length_nil, List.zip_cons_cons, List.zip_nil_right, List.foldl_cons, List.foldl_nil, List.set_cons_succ, List.set_cons_zero, e])
      (fun ρ T ⟨hm, hT, hρ⟩ => by
        subst hT hρ
        simp [pp]) n 100000 [some (.int a), some (.int (pp a n).1), some (.int (pp a n).2), some (.int 0)] S (by omega) ⟨Nat.le_refl _, rfl, by simp⟩
    obtain ⟨_, hT, hρ⟩ := hI
    subst hT hρ
    unfold c_number_of_20
    rw [cf_rt (S' := S') (d := .int n), drop_self]
    have hp := pair_pp h1 h2 n hn (S := S')
    generalize pp a n = q at *
    simp [m_number_of_20, hp, hw]
  unfold c_index_of_21
  rw [cf_rt (S' := S) (d := .int n), drop_self]
  simp [m_index_of_21, step_ok h1 h2, hnum]
end Lw

namespace Lw
open PySem MP

abbrev ppD (a : Int) (n : Nat) : D := .tup [.int (pp a n).1, .int (pp a n).2]
theorem check_ok {a : Int} (h1 : 2 ≤ a) (h2 : a ≤ 20) (n : Nat) (hn : n ≤ 2000) {S : Store} : c_check_pair_22 [.int a, ppD a n] S = .ok .non S := by
  have ht : c_is_tuple_10 [ppD a n, .int 2, .int 2] S = .ok (.bl true) S := by
    unfold c_is_tuple_10
    rw [cf_rt (S' := S) (d := .bl true), drop_self]
    simp [m_is_tuple_10, show isTy .tuple .tuple = true from rfl]
  have hp := pair_pp h1 h2 n hn (S := S)
  unfold c_check_pair_22
  rw [cf_nx (S' := S) (ρ := [some (.int a), some (ppD a n)]), drop_self]
  unfold ppD at *
  generalize pp a n = q at *
  simp [m_check_pair_22, ht, hp]
theorem doubled_pp {a : Int} (h1 : 2 ≤ a) (h2 : a ≤ 20) (n : Nat) (hn : n ≤ 2000) {S : Store} : c_doubled_23 [.int a, ppD a n] S = .ok (ppD a (n + n)) S := by
  obtain ⟨s1, s2⟩ := pp_sm h1 h2 n
  have d1 := s1.cMul s1 (by omega)
  have d2 := s1.cMul s2 (by omega)
  have hc := check_ok h1 h2 n hn (S := S)
  have hst := step_ok h1 h2 (S := S)
  have he := pp_eq a n
  have hsz : szOk 2 = true := rfl
  unfold c_doubled_23
  rw [cf_rt (S' := S) (d := ppD a (n + n)), drop_self]
  unfold ppD at *
  rw [pp_add]
  generalize pp a n = q at *
  have e1 : q.1 * q.1 + (a * a - 1) * q.2 * q.2 = q.1 * q.1 + q.1 * q.1 - 1 := by omega
  have e2 : q.1 * q.2 + q.2 * q.1 = q.1 * q.2 + q.1 * q.2 := by rw [Int.mul_comm q.2 q.1]
  simp [m_doubled_23, hst, hc, d1, d2, hsz, e1, e2]
theorem summed_pp {a : Int} (h1 : 2 ≤ a) (h2 : a ≤ 20) (n m : Nat) (hn : n ≤ 2000) (hm : m ≤ 2000) {S : Store} : c_summed_24 [.int a, ppD a n, ppD a m] S = .ok (ppD a (n + m)) S := by
  obtain ⟨s1, s2⟩ := pp_sm h1 h2 n
  obtain ⟨t1, t2⟩ := pp_sm h1 h2 m
  obtain ⟨sa, d0, sb⟩ := sq_cm h1 h2
  have d1 := s1.cMul t1 (by omega)
  have d2 := sb.cMul s2 (by omega)
  have d3 := (sb.mul s2).cMul t2 (by omega)
  have d4 := s1.cMul t2 (by omega)
  have d5 := s2.cMul t1 (by omega)
  have hc := check_ok h1 h2 n hn (S := S)
  have hc' := check_ok h1 h2 m hm (S := S)
  have hst := step_ok h1 h2 (S := S)
  have hsz : szOk 2 = true := rfl
  unfold c_summed_24
  rw [cf_rt (S' := S) (d := ppD a (n + m)), drop_self]
  unfold ppD at *
  rw [pp_add]
  generalize pp a n = q at *
  generalize pp a m = r at *
  simp [m_summed_24, hst, hc, hc', d0, d1, d2, d3, d4, d5, hsz]
theorem ok62_nat {n : Nat} (h : n < 1000000) : ok62 (n : Int) = true := by
  unfold ok62
  rw [Nat.blt_eq]
  omega
theorem pair_at_pp {a : Int} (h1 : 2 ≤ a) (h2 : a ≤ 20) (n : Nat) (hn : n ≤ 2000) {S : Store} : c_pair_at_17 [.int a, .int n] S = .ok (ppD a n) S := by
  obtain ⟨sa, d0, sb⟩ := sq_cm h1 h2
  have hsz : szOk 2 = true := rfl
  obtain ⟨ρ', S', hf, hT, x, hρ⟩ := for_rg (lo := 0) (g := gNm 4) (b := (sCons (sPar [2, 3] (aCons (f2 oAdd (f2 (oI cMul fun i j => i * j) (fVar 0) (fVar 2)) (f2 (oI cMul fun i j => i * j) (f2 (oI oTrue fun i j => i - j) (f2 (oI cMul fun i j => i * j) (fVar 0) (fVar 0)) (fC (.int 1))) (fVar 3))) (aCons (f2 oAdd (fVar 2) (f2 (oI cMul fun i j => i * j) (fVar 0) (fVar 3))) aNil)))
      sNil)) (n := n) (fun i ρ T => T = S ∧ ∃ x, ρ = [some (.int a), some (.int n), some (.int (pp a i).1), some (.int (pp a i).2), x])
    (fun i ρ T hi ⟨hT, x, hρ⟩ => by
      subst hT hρ
      obtain ⟨s1, s2⟩ := pp_sm h1 h2 i
      have d2 := sa.cMul s1 (by omega)
      have d3 := sb.cMul s2 (by omega)
      have d4 := sa.cMul s2 (by omega)
      refine ⟨_, T, .nx [some (.int a), some (.int n), some (.int (pp a (i + 1)).1), some (.int (pp a (i + 1)).2), some (.int (0 + i * 1))], _, T, rfl, ?_, .inl rfl, rfl, _, rfl⟩
      show _ = R.ok (Fl.nx [some (.int a), some (.int n), some (.int (a * (pp a i).1 + (a * a - 1) * (pp a i).2)), some (.int ((pp a i).1 + a * (pp a i).2)), some (.int (0 + i * 1))]) T
      generalize pp a i = q at *
      simp [d0, d2, d3, d4]) (ρ := [some (.int a), some (.int n), some (.int 1), some (.int 0), none]) (S := S) ⟨rfl, none, rfl⟩
  subst hT hρ
  unfold c_pair_at_17
  rw [cf_rt (S' := S') (d := ppD a n), drop_self]
  have h62 := ok62_nat (n := n) (by omega)
  unfold ppD
  generalize pp a n = q at *
  have hcnt : ∀ m, (srcRg 0 1 m).cnt = m := fun _ => rfl
  simp only [hcnt] at hf
  simp [m_pair_at_17, hsz, h62, hf, hcnt]
theorem pell_pp {a : Int} (h1 : 2 ≤ a) (h2 : a ≤ 20) (n : Nat) (hn : n ≤ 200) {S : Store} : c_pell_18 [.int a, .int n] S = .ok (ppD a n) S := by
  have hi : c_check_index_16 [.int n, .int 0] S = .ok .non S := by
    unfold c_check_index_16
    rw [cf_nx (S' := S) (ρ := [some (.int n), some (.int 0)]), drop_self]
    have e : (n : Int) ≤ 200 := by omega
    simp [m_check_index_16, integer_int, e]
  have hst := step_ok h1 h2 (S := S)
  have hp := pair_at_pp h1 h2 n (by omega) (S := S)
  unfold c_pell_18
  rw [cf_rt (S' := S) (d := ppD a n), drop_self]
  simp [m_pell_18, hst, hi, hp]
/-- the law's own row -/
theorem pairs_pp {a : Int} (h1 : 2 ≤ a) (h2 : a ≤ 20) (n : Nat) (hn : n ≤ 2000) {S : Store} : ∃ S', c__law_pairs_30 [.int a, .int ((n : Int) + 1)] S = .ok (.ref S.length) S' ∧ Gr S S' ∧ S'[S.length]? = some (.lst ((List.range (n + 1)).map fun i => ppD a i)) := by
  obtain ⟨sa, d0, sb⟩ := sq_cm h1 h2
  have hsz : szOk 2 = true := rfl
  have hsz1 : szOk 1 = true := rfl
  obtain ⟨ρ', S', hf, ⟨T, hT⟩, x, y, z, hρ⟩ := for_rg (lo := 0) (g := gNm 3) (b := (sCons (sAsg (f2 oIx (fVar 2) (f1 (oU fun i => -i) (fC (.int 1)))) (gTp 2 (gsCons (gNm 4) (gsCons (gNm 5) gsNil))))
      (sCons (sExpr (fBM .list mApp (fVar 2) (aCons (fTup (aCons (f2 oAdd (f2 (oI cMul fun i j => i * j) (fVar 4) (fVar 0)) (f2 (oI cMul fun i j => i * j) (f2 (oI oTrue fun i j => i - j) (f2 (oI cMul fun i j => i * j) (fVar 0) (fVar 0)) (fC (.int 1))) (fVar 5))) (aCons (f2 oAdd (fVar 4) (f2 (oI cMul fun i j => i * j) (fVar 0) (fVar 5))) aNil))) aNil)))
      sNil))) (n := n) (fun i ρ T => (∃ U : Unit, T = S ++ [.lst ((List.range (i + 1)).map fun i => ppD a i)]) ∧ ∃ x y z, ρ = [some (.int a), some (.int ((n : Int) + 1)), some (.ref S.length), x, y, z])
    (fun i ρ T hi ⟨⟨_, hT⟩, x, y, z, hρ⟩ => by
      subst hT hρ
      obtain ⟨s1, s2⟩ := pp_sm h1 h2 i
      have d2 := s1.cMul sa (by omega)
      have d3 := sb.cMul s2 (by omega)
      have d4 := sa.cMul s2 (by omega)
      refine ⟨_, _, .nx [some (.int a), some (.int ((n : Int) + 1)), some (.ref S.length), some (.int (0 + i * 1)), some (.int (pp a i).1), some (.int (pp a i).2)], _, S ++ [.lst ((List.range (i + 1 + 1)).map fun i => ppD a i)], rfl, ?_, .inl rfl, ⟨(), rfl⟩, _, _, _, rfl⟩
      have hl : L2.atI ((List.range (i + 1)).map fun i => ppD a i) (-1) = some (ppD a i) := by
        rw [atI_m1]
        simp
      have hap : (List.range (i + 1 + 1)).map (fun i => ppD a i) = (List.range (i + 1)).map (fun i => ppD a i) ++ [.tup [.int ((pp a i).1 * a + (a * a - 1) * (pp a i).2), .int ((pp a i).1 + a * (pp a i).2)]] := by
        rw [List.range_succ, List.map_append]
        congr 1
        show [ppD a (i + 1)] = _
        unfold ppD
        show [D.tup [.int (a * (pp a i).1 + (a * a - 1) * (pp a i).2), .int ((pp a i).1 + a * (pp a i).2)]] = _
        rw [Int.mul_comm a (pp a i).1]
      have hm : ∀ d : D, mApp (.ref S.length) [d] (S ++ [.lst ((List.range (i + 1)).map fun i => ppD a i)]) = some (.non, S ++ [.lst ((List.range (i + 1)).map (fun i => ppD a i) ++ [d])]) := fun d => by
        unfold mApp
        simp only [get_new]
        rw [if_pos (by rw [Nat.blt_eq]; simp; omega)]
        simp
      have ht : tyB (S ++ [.lst ((List.range (i + 1)).map fun i => ppD a i)]) (.ref S.length) .list = true := by
        unfold tyB
        simp only [get_new]
      rw [hap]
      generalize ((List.range (i + 1)).map fun i => ppD a i) = l at *
      unfold ppD at hl
      generalize pp a i = q at *
      simp [d0, d2, d3, d4, hl, hm, ht, hsz, -List.append_eq]) (ρ := [some (.int a), some (.int ((n : Int) + 1)), some (.ref S.length), none, none, none]) (S := S ++ [.lst [ppD a 0]]) ⟨⟨(), rfl⟩, _, _, _, rfl⟩
  subst hT hρ
  have h62 := ok62_nat (n := n) (by omega)
  have hcnt : ∀ m, (srcRg 0 1 m).cnt = m := fun _ => rfl
  simp only [hcnt] at hf
  refine ⟨_, ?_, .app, get_new⟩
  unfold c__law_pairs_30
  rw [cf_rt (S' := S ++ [.lst ((List.range (n + 1)).map fun i => ppD a i)]) (d := .ref S.length), drop_ref (Nat.le_refl _)]
  have e : (n : Int) + 1 - 1 = n := by omega
  have hp0 : ppD a 0 = .tup [.int 1, .int 0] := rfl
  rw [hp0] at hf
  simp [m__law_pairs_30, hsz, hsz1, h62, hf, hcnt, e]
end Lw

namespace Lw
open PySem MP

theorem raised_2 {k : Nat} (hk : k < 13) {S : Store} : c__law_raised_29 [.int 2, .int k] S = .ok (.int (2 ^ k)) S := by
  unfold c__law_raised_29
  match k, hk with
  | 0, _ => rw [cf_rt (S' := S) (d := .int 1) (by rfl), drop_self]; rfl
  | 1, _ => rw [cf_rt (S' := S) (d := .int 2) (by rfl), drop_self]; rfl
  | 2, _ => rw [cf_rt (S' := S) (d := .int 4) (by rfl), drop_self]; rfl
  | 3, _ => rw [cf_rt (S' := S) (d := .int 8) (by rfl), drop_self]; rfl
  | 4, _ => rw [cf_rt (S' := S) (d := .int 16) (by rfl), drop_self]; rfl
  | 5, _ => rw [cf_rt (S' := S) (d := .int 32) (by rfl), drop_self]; rfl
  | 6, _ => rw [cf_rt (S' := S) (d := .int 64) (by rfl), drop_self]; rfl
  | 7, _ => rw [cf_rt (S' := S) (d := .int 128) (by rfl), drop_self]; rfl
  | 8, _ => rw [cf_rt (S' := S) (d := .int 256) (by rfl), drop_self]; rfl
  | 9, _ => rw [cf_rt (S' := S) (d := .int 512) (by rfl), drop_self]; rfl
  | 10, _ => rw [cf_rt (S' := S) (d := .int 1024) (by rfl), drop_self]; rfl
  | 11, _ => rw [cf_rt (S' := S) (d := .int 2048) (by rfl), drop_self]; rfl
  | 12, _ => rw [cf_rt (S' := S) (d := .int 4096) (by rfl), drop_self]; rfl
theorem sq_mono {a b : Int} (ha : 0 ≤ a) (h : a ≤ b) : a * a ≤ b * b := Int.mul_le_mul h h ha (Int.le_trans ha h)
theorem sq_lt {a b : Int} (hb : 0 ≤ b) (h : a * a < b * b) : a < b := by
  by_cases c : a < b
  · exact c
  · have := sq_mono hb (Int.not_lt.mp c)
    omega
theorem sqrt_ok {N : Int} (h0 : 1 ≤ N) (hN : N < 2 ^ 24) {S : Store} : ∃ x : Int, c__law_square_root_31 [.int N] S = .ok (.int x) S ∧ 0 ≤ x ∧ x * x ≤ N ∧ N < (x + 1) * (x + 1) := by
  -- the bits
  have hb : ∃ L : Nat, L < 13 ∧ (Builtin.Int.intBits N : Int) / 2 = (L : Nat) ∧ N < 2 ^ (L + 1) * 2 ^ (L + 1) := by
    have hn0 : N.natAbs ≠ 0 := by omega
    have e : Builtin.Int.intBits N = N.natAbs.log2 + 1 := by
      unfold Builtin.Int.intBits
      rw [if_neg (by simpa using hn0)]
    have h1 : N.natAbs.log2 < 24 := (Nat.log2_lt hn0).mpr (by omega)
    have h2 : N.natAbs < 2 ^ (N.natAbs.log2 + 1) := Nat.lt_log2_self
    refine ⟨(N.natAbs.log2 + 1) / 2, by omega, by rw [e]; omega, ?_⟩
    have h3 : 2 ^ (N.natAbs.log2 + 1) ≤ 2 ^ ((N.natAbs.log2 + 1) / 2 + 1 + ((N.natAbs.log2 + 1) / 2 + 1)) := Nat.pow_le_pow_right (by decide) (by omega)
    rw [Nat.pow_add 2 ((N.natAbs.log2 + 1) / 2 + 1) ((N.natAbs.log2 + 1) / 2 + 1)] at h3
    have h4 : N.natAbs < 2 ^ ((N.natAbs.log2 + 1) / 2 + 1) * 2 ^ ((N.natAbs.log2 + 1) / 2 + 1) := Nat.lt_of_lt_of_le h2 h3
    have h5 : ((N.natAbs : Nat) : Int) < ((2 ^ ((N.natAbs.log2 + 1) / 2 + 1) * 2 ^ ((N.natAbs.log2 + 1) / 2 + 1) : Nat) : Int) := Int.ofNat_lt.mpr h4
    rw [Int.natAbs_of_nonneg (by omega)] at h5
    rw [Int.natCast_mul, Int.natCast_pow] at h5
    exact h5
  obtain ⟨L, hL, hbit, hlt⟩ := hb
  obtain ⟨ρ', S', hf, hT, f, m, x, hρ, hf0, hf1, hf2⟩ := for_rgD (lo := (L : Int)) (g := gNm 2) (b := (sCons (sAsg (f2 oAdd (fVar 1) (fCall c__law_raised_29 (aCons (fC (.int 2)) (aCons (fVar 2) aNil)))) (gNm 3))
      (sCons (sIf (fB (f2 oLe (f2 (oI cMul fun i j => i * j) (fVar 3) (fVar 3)) (fVar 0))) (sCons (sAsg (fVar 3) (gNm 1))
      sNil) sNil)
      sNil))) (n := L + 1)
    (fun i ρ T => T = S ∧ ∃ (f : Int) (m x : Option D), ρ = [some (.int N), some (.int f), m, x] ∧ 0 ≤ f ∧ f * f ≤ N ∧ N < (f + 2 ^ (L + 1 - i)) * (f + 2 ^ (L + 1 - i)))
    (fun i ρ T hi ⟨hT, f, m, x, hρ, g0, g1, g2⟩ => by
      subst hT hρ
      have e1 : (L : Int) + i * (-1) = ((L - i : Nat) : Int) := by omega
      have e2 : L + 1 - i = (L - i) + 1 := by omega
      have e3 : L + 1 - (i + 1) = L - i := by omega
      have hr := raised_2 (k := L - i) (by omega) (S := T)
      rw [e2] at g2
      rw [e3]
      have hp : (2 : Int) ^ (L - i + 1) = 2 ^ (L - i) + 2 ^ (L - i) := by rw [Int.pow_succ]; omega
      have hq : (0 : Int) < 2 ^ (L - i) := Int.pow_pos (by decide)
      have hq2 : (2 : Int) ^ (L - i) ≤ 2 ^ 13 := by
        have := Nat.pow_le_pow_right (n := 2) (by decide) (show L - i ≤ 13 by omega)
        have h := Int.ofNat_le.mpr this
        simpa using h
      rw [hp] at g2
      rw [e1]
      generalize (2 : Int) ^ (L - i) = w at *
      have hfs : f < 2 ^ 12 := sq_lt (by decide) (by omega)
      have sm : Sm 20 (f + w) := Sm.of_lt (by omega) (by omega)
      have d1 := sm.cMul sm (by decide)
      by_cases c : (f + w) * (f + w) ≤ N
      · refine ⟨_, T, .nx [some (.int N), some (.int (f + w)), some (.int ((L - i : Nat) : Int)), some (.int (f + w))], _, T, rfl, ?_, .inl rfl, rfl, _, _, _, rfl, by omega, c, ?_⟩
        · simp [hr, d1, c]
        · have : f + w + w = f + (w + w) := by omega
          rw [this]
          exact g2
      · refine ⟨_, T, .nx [some (.int N), some (.int f), some (.int ((L - i : Nat) : Int)), some (.int (f + w))], _, T, rfl, ?_, .inl rfl, rfl, _, _, _, rfl, g0, g1, by omega⟩
        simp [hr, d1, c]) (ρ := [some (.int N), some (.int 0), none, none]) (S := S) ⟨rfl, 0, none, none, rfl, by decide, by omega, by simpa using hlt⟩
  subst hT hρ
  have hcnt : ∀ m, (srcRg (L : Int) (-1) m).cnt = m := fun _ => rfl
  simp only [hcnt] at hf
  refine ⟨f, ?_, hf0, hf1, by simpa using hf2⟩
  unfold c__law_square_root_31
  rw [cf_rt (S' := S') (d := .int f), drop_self]
  have d1 : cDiv (Builtin.Int.intBits N : Int) 2 = true := cDiv_sm (by decide) (Sm.lit (by decide +kernel))
  have h62 : ok62 (L : Int) = true := ok62_nat (by omega)
  have h62' : ok62 (-1) = true := by decide
  have e4 : ((L : Int) - -1).toNat = L + 1 := by omega
  simp [m__law_square_root_31, d1, hbit, h62, h62', e4, hf, hcnt]
end Lw

namespace Lw
open PySem MP

/-! ### which y have an x: by going through -/
def ppN (a : Nat) : Nat → Nat × Nat
  | 0 => (1, 0)
  | n + 1 => (a * (ppN a n).1 + (a * a - 1) * (ppN a n).2, (ppN a n).1 + a * (ppN a n).2)
theorem ppN_pp {a : Nat} (ha : 1 ≤ a) : ∀ n, pp (a : Int) n = ((↑(ppN a n).1 : Int), (↑(ppN a n).2 : Int))
  | 0 => rfl
  | n + 1 => by
    have h1 : 1 ≤ a * a := Nat.mul_le_mul ha ha
    show ((a : Int) * (pp a n).1 + ((a : Int) * a - 1) * (pp a n).2, (pp a n).1 + (a : Int) * (pp a n).2) = (((a * (ppN a n).1 + (a * a - 1) * (ppN a n).2 : Nat) : Int), (((ppN a n).1 + a * (ppN a n).2 : Nat) : Int))
    rw [ppN_pp ha n]
    have e : ((a * a - 1 : Nat) : Int) = (a : Int) * a - 1 := by rw [Int.natCast_sub h1]; rfl
    simp only [Int.natCast_add, Int.natCast_mul, e]
def isq (N : Nat) : Nat := (List.range 13).foldr (fun i f => if Nat.ble ((f + 2 ^ i) * (f + 2 ^ i)) N then f + 2 ^ i else f) 0
def chk (a y : Nat) : Bool :=
  let N := 1 + (a * a - 1) * y * y
  let s := isq N
  Nat.ble (s * s) N && Nat.blt N ((s + 1) * (s + 1)) && (!Nat.beq (s * s) N || (List.range 12).any fun k => Nat.beq (ppN a k).1 s && Nat.beq (ppN a k).2 y)
theorem chk_all : ((List.range 19).all fun a => (List.range 119).all fun y => chk (a + 2) y) = true := by decide +kernel
theorem nsq_uniq {x s N : Nat} (h1 : x * x ≤ N) (h2 : N < (x + 1) * (x + 1)) (h3 : s * s ≤ N) (h4 : N < (s + 1) * (s + 1)) : x = s := by
  rcases Nat.lt_trichotomy x s with h | h | h
  · have := Nat.mul_le_mul (show x + 1 ≤ s from h) (show x + 1 ≤ s from h)
    omega
  · exact h
  · have := Nat.mul_le_mul (show s + 1 ≤ x from h) (show s + 1 ≤ x from h)
    omega
theorem sq_pp {a : Int} (h1 : 2 ≤ a) (h2 : a ≤ 20) {y : Nat} (hy : y < 119) {x : Int} (hx : 0 ≤ x) (h : x * x = 1 + (a * a - 1) * y * y) : ∃ k, k < 12 ∧ pp a k = (x, (y : Int)) := by
  obtain ⟨b, rfl⟩ : ∃ b : Nat, a = b := ⟨a.toNat, (Int.toNat_of_nonneg (by omega)).symm⟩
  obtain ⟨u, rfl⟩ : ∃ u : Nat, x = u := ⟨x.toNat, (Int.toNat_of_nonneg hx).symm⟩
  have hb1 : 1 ≤ b * b := Nat.mul_le_mul (show 1 ≤ b by omega) (show 1 ≤ b by omega)
  have e : ((b * b - 1 : Nat) : Int) = (b : Int) * b - 1 := by rw [Int.natCast_sub hb1]; rfl
  have hN : u * u = 1 + (b * b - 1) * y * y := by
    apply Int.ofNat.inj
    show ((u * u : Nat) : Int) = ((1 + (b * b - 1) * y * y : Nat) : Int)
    simp only [Int.natCast_add, Int.natCast_mul, e]
    exact h
  have hc : chk b y = true := by
    have := List.all_eq_true.mp chk_all (b - 2) (List.mem_range.mpr (by omega))
    have := List.all_eq_true.mp this y (List.mem_range.mpr hy)
    rwa [show b - 2 + 2 = b by omega] at this
  unfold chk at hc
  simp only [Bool.and_eq_true, Bool.or_eq_true, Bool.not_eq_true', List.any_eq_true, List.mem_range] at hc
  obtain ⟨⟨c1, c2⟩, c3⟩ := hc
  have c1 := Nat.le_of_ble_eq_true c1
  rw [Nat.blt_eq] at c2
  have hs : u = isq (1 + (b * b - 1) * y * y) := nsq_uniq (Nat.le_of_eq hN) (by rw [← hN]; exact Nat.mul_lt_mul'' (by omega) (by omega)) c1 c2
  rw [← hs] at c3
  rcases c3 with c3 | ⟨k, hk, ck⟩
  · rw [hN] at c3
    simp at c3
  · refine ⟨k, hk, ?_⟩
    rw [ppN_pp (by omega), Nat.eq_of_beq_eq_true ck.1, Nat.eq_of_beq_eq_true ck.2]

/-! ### the row as data -/
abbrev ppP (a : Int) (k : Nat) : PyData := .tuple [.int (pp a k).1, .int (pp a k).2]
theorem conv_pp {lk : Nat → Option PyData} (a : Int) : ∀ l : List Nat, convDs lk (l.map fun i => ppD a i) = some (l.map fun i => ppP a i)
  | [] => rfl
  | k :: l => by
    rw [List.map_cons, List.map_cons]
    unfold convDs
    rw [conv_pp a l]
    have : convD lk (ppD a k) = some (ppP a k) := by simp [ppD, ppP, convD, convDs]
    rw [this]
theorem toPy_row {S : Store} {q : Nat} {a : Int} {n : Nat} (h : S[q]? = some (.lst ((List.range n).map fun i => ppD a i))) : toPy S (.ref q) = some (.list ((List.range n).map fun i => ppP a i)) := by
  show lkPy S 6 q = _
  unfold lkPy
  rw [h]
  dsimp only
  rw [conv_pp]
  rfl
theorem toPy_two {S : Store} {i j : Int} : toPy S (.tup [.int i, .int j]) = some (.tuple [.int i, .int j]) := by
  show convD _ _ = _
  simp [convD, convDs]
theorem shaped_two {i j : Int} : SeqAt.shaped (.tuple [.int i, .int j]) = true := by
  unfold SeqAt.shaped
  simp [PyData.canLay0, PyData.canLayAll0, PyData.depth, PyData.depthAll]
theorem lay_row (a : Int) : ∀ l : List Nat, PyData.canLayAll0 (l.map fun i => ppP a i) = true ∧ PyData.depthAll (l.map fun i => ppP a i) ≤ 1
  | [] => ⟨by simp [PyData.canLayAll0], by simp [PyData.depthAll]⟩
  | k :: l => by
    obtain ⟨h1, h2⟩ := lay_row a l
    rw [List.map_cons]
    refine ⟨by simp [PyData.canLayAll0, PyData.canLay0, h1], ?_⟩
    simp only [PyData.depthAll, PyData.depth]
    exact Nat.max_le.mpr ⟨by decide, h2⟩
theorem shaped_row (a : Int) (l : List Nat) : SeqAt.shaped (.list (l.map fun i => ppP a i)) = true := by
  obtain ⟨h1, h2⟩ := lay_row a l
  unfold SeqAt.shaped
  rw [Bool.and_eq_true]
  exact ⟨by simp only [PyData.canLay0]; exact h1, decide_eq_true (by simp only [PyData.depth]; omega)⟩
theorem eqv_two {i j u v : Int} : PyData.eqv (.tuple [.int i, .int j]) (.tuple [.int u, .int v]) = (i == u && (j == v && true)) := by simp [PyData.eqv, PyData.eqvAll]
theorem eqv_pp {a : Int} (h1 : 2 ≤ a) (k j : Nat) : PyData.eqv (ppP a k) (ppP a j) = decide (k = j) := by
  have mono : ∀ m n : Nat, m < n → (pp a m).2 < (pp a n).2 := fun m n h => by
    induction n with
    | zero => omega
    | succ n ih =>
      obtain ⟨p1, p2⟩ := pp_pos h1 n
      have h6 : 1 * (pp a n).2 ≤ a * (pp a n).2 := Int.mul_le_mul_of_nonneg_right (by omega) (by omega)
      show _ < (pp a n).1 + a * (pp a n).2
      rcases Nat.lt_or_ge m n with c | c
      · have := ih c
        omega
      · have : m = n := by omega
        subst this
        omega
  rw [eqv_two]
  by_cases h : k = j
  · subst h; simp
  · rw [decide_eq_false h]
    have : (pp a k).2 ≠ (pp a j).2 := by
      rcases Nat.lt_or_gt_of_ne h with c | c
      · have := mono _ _ c; omega
      · have := mono _ _ c; omega
    simp [this]
theorem in_row {S : Store} {q : Nat} {a : Int} {n : Nat} {i j : Int} (h : S[q]? = some (.lst ((List.range n).map fun i => ppD a i))) : oIn false (.tup [.int i, .int j]) (.ref q) S = some (.bl ((List.range n).any fun k => (pp a k).1 == i && ((pp a k).2 == j && true)), S) := by
  have hs : seqOf S (.ref q) = some ((List.range n).map fun i => ppD a i) := by
    show lstOf S (.ref q) = _
    rw [lstOf_ref, h]
  show (match seqOf S (.ref q) with | none => none | some xs => _) = _
  rw [hs]
  show (if flatD (.tup _) && _ then _ else _) = _
  rw [if_neg (by simp [flatD]), toPy_two, toPy_row h]
  show (if SeqAt.shaped _ && SeqAt.shaped _ then _ else _) = _
  rw [if_pos (by rw [shaped_two, shaped_row]; rfl), List.any_map]
  simp [Function.comp_def, eqv_two]
theorem index_row {S : Store} {q : Nat} {a : Int} {n k : Nat} (h1 : 2 ≤ a) (h : S[q]? = some (.lst ((List.range n).map fun i => ppD a i))) (hk : k < n) : mIndex (.ref q) [ppD a k] S = some (.int k, S) := by
  have hi : ∀ (m i : Nat), i ≤ k → i + m = n → ixOf (ppP a k) ((List.range' i m).map fun i => ppP a i) i = some k := by
    intro m
    induction m with
    | zero => intro i hi e; omega
    | succ m ih =>
      intro i hi e
      rw [List.range'_succ, List.map_cons]
      unfold ixOf
      rw [eqv_pp h1]
      by_cases c : i = k
      · subst c; simp
      · rw [decide_eq_false c, if_neg Bool.false_ne_true]
        exact ih (i + 1) (by omega) (by omega)
  have h0 : ixOf (ppP a k) ((List.range n).map fun i => ppP a i) 0 = some k := by
    rw [List.range_eq_range']
    exact hi n 0 (Nat.zero_le _) (by omega)
  show (match toPy S (.ref q), toPy S (ppD a k) with | some (.list ps), some p => _ | _, _ => none) = _
  rw [toPy_row h, toPy_two]
  show (if SeqAt.shaped _ && SeqAt.shaped _ then _ else _) = _
  rw [if_pos (by rw [shaped_two, shaped_row]; rfl), h0]
  rfl
end Lw

namespace Lw
open PySem MP

theorem shw_pp {a : Int} (h1 : 2 ≤ a) (h2 : a ≤ 20) (n : Nat) (hn : n ≤ 1250) : Shw (ppD a n) := by
  obtain ⟨s1, s2⟩ := pp_sm h1 h2 n
  exact shw_pair s1 s2 (by omega) (by omega)
theorem shw_nat {n : Nat} (hn : n < 1000000) : Shw (.int (n : Int)) := shw_int (n := 20) (Sm.of_nat (Nat.lt_of_lt_of_le hn (by decide))) (by decide) (by decide)
/-- all that solves, to a bound -/
theorem solved_ok {a : Int} (h1 : 2 ≤ a) (h2 : a ≤ 20) {u : Nat} (hu : u ≤ 119) {S : Store} : ∃ S', c__law_are_solved_32 [.int a, .int u] S = .ok (.bl true) S' ∧ Gr S S' := by
  obtain ⟨T, hp, hG, hT⟩ := pairs_pp h1 h2 11 (by decide) (S := S)
  obtain ⟨sa, d0, sb⟩ := sq_cm h1 h2
  have hsz : szOk 2 = true := rfl
  have hst := @step_ok a h1 h2
  obtain ⟨ρ', T', hf, hT', w1, w2, w3, w4, hρ⟩ := for_rg (lo := 0) (g := gNm 3) (b := (sCons (sAsg (f2 oAdd (fC (.int 1)) (f2 (oI cMul fun i j => i * j) (f2 (oI cMul fun i j => i * j) (f2 (oI oTrue fun i j => i - j) (f2 (oI cMul fun i j => i * j) (fVar 0) (fVar 0)) (fC (.int 1))) (fVar 3)) (fVar 3))) (gNm 4))
      (sCons (sAsg (fCall c__law_square_root_31 (aCons (fVar 4) aNil)) (gNm 5))
      (sCons (sAsg (fIfE (fB (f2 (oEq false) (f2 (oI cMul fun i j => i * j) (fVar 5) (fVar 5)) (fVar 4))) (fBM .list mIndex (fVar 2) (aCons (fTup (aCons (fVar 5) (aCons (fVar 3) aNil))) aNil)) (fC .non)) (gNm 6))
      (sCons (sIf (fOr (fB (f2 (oEq true) (fCallB (o1 oRepr) (aCons (fCall c_index_of_21 (aCons (fVar 0) (aCons (fVar 5) (aCons (fVar 3) aNil)))) aNil)) (fCallB (o1 oRepr) (aCons (fVar 6) aNil)))) (fB (f2 (oEq true) (f2 (oEq false) (f2 (oI cMul fun i j => i * j) (fVar 5) (fVar 5)) (fVar 4)) (f2 (oIn false) (fTup (aCons (fVar 5) (aCons (fVar 3) aNil))) (fVar 2))))) (sCons (sRet (fC (.bl false)))
      sNil) sNil)
      sNil))))) (n := u)
    (fun i ρ V => V = T ∧ ∃ w1 w2 w3 w4 : Option D, ρ = [some (.int a), some (.int u), some (.ref S.length), w1, w2, w3, w4])
    (fun y ρ V hy ⟨hV, w1, w2, w3, w4, hρ⟩ => by
      subst hV hρ
      have sy : Sm 7 (y : Int) := Sm.of_nat (by omega)
      have d1 := sb.cMul sy (by decide)
      have d2 := (sb.mul sy).cMul sy (by decide)
      have e0 : (0 : Int) + (y : Nat) * 1 = (y : Int) := by omega
      rw [e0]
      -- the number
      have hb0 : (3 : Int) ≤ a * a - 1 := by
        have h4 : 2 * 2 ≤ a * a := Int.mul_le_mul h1 h1 (by decide) (by omega)
        omega
      have hN0 : 0 ≤ (a * a - 1) * (y : Int) * (y : Int) := Int.mul_nonneg (Int.mul_nonneg (by omega) (by omega)) (by omega)
      have hN1 : (a * a - 1) * (y : Int) * (y : Int) < 2 ^ 23 := (((sb.mul sy).mul sy).mono (by decide)).abs_lt hN0
      obtain ⟨x, hx, x0, x1, x2⟩ := sqrt_ok (N := 1 + (a * a - 1) * (y : Int) * (y : Int)) (by omega) (by omega) (S := V)
      have hxs : x < 2 ^ 12 := sq_lt (by decide) (by omega)
      have sx : Sm 12 x := Sm.of_lt x0 hxs
      have d3 := sx.cMul sx (by decide)
      have hin := in_row (i := x) (j := (y : Int)) hT
      have hty : tyB V (.ref S.length) .list = true := by
        unfold tyB
        simp only [hT]
      by_cases c : x * x = 1 + (a * a - 1) * (y : Int) * (y : Int)
      · obtain ⟨k, hk, hkp⟩ := sq_pp h1 h2 (y := y) (by omega) x0 c
        have hix := index_pp h1 h2 k (by omega) (S := V)
        have hmi := index_row h1 hT hk
        obtain ⟨t, ht, _⟩ := repr_ne (shw_nat (n := k) (by omega)) (S := V)
        unfold ppD at hmi
        rw [hkp] at hix hmi
        have hany : ((List.range (11 + 1)).any fun k => (pp a k).1 == x && ((pp a k).2 == (y : Int) && true)) = true := by
          rw [List.any_eq_true]
          exact ⟨k, List.mem_range.mpr hk, by rw [hkp]; simp⟩
        rw [hany] at hin
        refine ⟨_, V, .nx [some (.int a), some (.int u), some (.ref S.length), some (.int y), some (.int (1 + (a * a - 1) * (y : Int) * (y : Int))), some (.int x), some (.int k)], _, V, rfl, ?_, .inl rfl, rfl, _, _, _, _, rfl⟩
        simp [d0, d1, d2, d3, hx, c, hsz, hty, hmi, hix, ht, sEq_self, hin]
      · have hpr := pair_int h1 h2 (sx.mono (show 12 ≤ 20 by decide)) (sy.mono (show 7 ≤ 20 by decide)) (by decide) (S := V)
        have hne : (x * x - (a * a - 1) * (y : Int) * (y : Int) == 1) = false := by
          rw [beq_eq_false_iff_ne]
          omega
        have hpf : (decide (0 ≤ x) && (decide (0 ≤ (y : Int)) && (x * x - (a * a - 1) * (y : Int) * (y : Int) == 1))) = false := by rw [hne]; simp
        rw [hpf] at hpr
        have hix := index_no h1 h2 hpr
        obtain ⟨t, ht, _⟩ := repr_ne shw_non (S := V)
        have hany : ((List.range (11 + 1)).any fun k => (pp a k).1 == x && ((pp a k).2 == (y : Int) && true)) = false := by
          rw [List.any_eq_false]
          intro k hk
          have hpe := pp_eq a k
          simp only [Bool.and_true, Bool.and_eq_true, beq_iff_eq, not_and]
          intro e1 e2
          rw [e1, e2] at hpe
          omega
        rw [hany] at hin
        refine ⟨_, V, .nx [some (.int a), some (.int u), some (.ref S.length), some (.int y), some (.int (1 + (a * a - 1) * (y : Int) * (y : Int))), some (.int x), some .non], _, V, rfl, ?_, .inl rfl, rfl, _, _, _, _, rfl⟩
        simp [d0, d1, d2, d3, hx, c, hsz, hty, hix, ht, sEq_self, hin]) (ρ := [some (.int a), some (.int u), some (.ref S.length), none, none, none, none]) (S := T) ⟨rfl, _, _, _, _, rfl⟩
  subst hT' hρ
  have h62 := ok62_nat (n := u) (by omega)
  have hcnt : ∀ m, (srcRg 0 1 m).cnt = m := fun _ => rfl
  simp only [hcnt] at hf
  refine ⟨_, cf_rt (n := 2) (m := 7) (d := .bl true) (S' := T') ?_, hG.drop⟩
  have hp' : c__law_pairs_30 [.int a, .int 12] S = .ok (.ref S.length) T' := hp
  simp [m__law_are_solved_32, hp', h62, hf, hcnt]
end Lw

namespace Lw
open PySem MP

theorem take_k {S : Store} {p n : Nat} {u : Int} (h : Pot S p n) (hn : n ≤ 1000000) (hu : 0 < u) (hu2 : Sm 60 u) : ∃ d : Nat, ∃ S', c__law_take_27 [.ref p, .int u] S = .ok (.int d) S' ∧ (d : Int) < u ∧ Pot S' p (n + 1) ∧ Ext p S S' := by
  obtain ⟨d, S', h1, h2, h3, h4, h5⟩ := take_ok (c1 := 101325) (c2 := 1539) (c3 := 11687) (c4 := 669) (c5 := 341) h hn hu hu2 ⟨by decide, Sm.lit⟩ ⟨by decide, Sm.lit⟩ ⟨by decide, Sm.lit⟩ ⟨by decide, Sm.lit⟩ ⟨by decide, Sm.lit⟩
  refine ⟨d.toNat, S', ?_, by omega, h4, h5⟩
  rw [Int.toNat_of_nonneg h2]
  exact h1
/-- what stands beside the pot: the row -/
abbrev Row (S : Store) (a : Int) (q : Nat) : Prop := S[q]? = some (.lst ((List.range 201).map fun i => ppD a i))
theorem Row.ext {S S' : Store} {a : Int} {p q : Nat} (h : Row S a q) (e : Ext p S S') (hpq : q ≠ p) : Row S' a q := (e.at_ q (List.getElem?_eq_some_iff.mp h).1 hpq).trans h
theorem row_at {a : Int} {k : Nat} (hk : k < 201) : ((List.range 201).map fun i => ppD a i)[k]? = some (ppD a k) := by
  simp [hk]
theorem great_ok {a : Int} (h1 : 2 ≤ a) (h2 : a ≤ 20) {S : Store} {p q n : Nat} (hP : Pot S p n) (hn : n ≤ 1000) (hR : Row S a q) (hpq : q ≠ p) : ∃ S', c__law_are_great_right_33 [.ref p, .int a, .ref q] S = .ok (.bl true) S' ∧ Ext p S S' := by
  obtain ⟨d0, S0, t0, t1, t2, t3⟩ := take_k (u := 20) hP (by omega) (by decide) Sm.lit
  have hst := @step_ok a h1 h2
  obtain ⟨sa, da, sb⟩ := sq_cm h1 h2
  have hR0 := hR.ext t3 hpq
  obtain ⟨ρ', T, hf, hE, hPT, m, w1, w2, hm, hρ⟩ := for_rg (lo := 0) (g := gNm 6) (b := (sCons (sIf (fB (f2 (oEq false) (fCall c__law_take_27 (aCons (fVar 0) (aCons (fC (.int 2)) aNil))) (fC (.int 0)))) (sCons (sPar [4, 5] (aCons (fCall c_doubled_23 (aCons (fVar 1) (aCons (fVar 4) aNil))) (aCons (f2 (oI cMul fun i j => i * j) (fC (.int 2)) (fVar 5)) aNil)))
      sNil) (sCons (sAsg (fCall c__law_take_27 (aCons (fVar 0) (aCons (fC (.int 60)) aNil))) (gNm 7))
      (sCons (sPar [4, 5] (aCons (fCall c_summed_24 (aCons (fVar 1) (aCons (fVar 4) (aCons (f2 oIx (fVar 2) (fVar 7)) aNil)))) (aCons (f2 oAdd (fVar 5) (fVar 7)) aNil)))
      sNil)))
      (sCons (sIf (fOr (fB (f2 (oEq true) (f2 (oI oTrue fun i j => i - j) (f2 (oI cMul fun i j => i * j) (f2 oIx (fVar 4) (fC (.int 0))) (f2 oIx (fVar 4) (fC (.int 0)))) (f2 (oI cMul fun i j => i * j) (f2 (oI cMul fun i j => i * j) (f2 (oI oTrue fun i j => i - j) (f2 (oI cMul fun i j => i * j) (fVar 1) (fVar 1)) (fC (.int 1))) (f2 oIx (fVar 4) (fC (.int 1)))) (f2 oIx (fVar 4) (fC (.int 1))))) (fC (.int 1)))) (fB (f2 (oEq true) (fCallB (o1 oRepr) (aCons (fCall c_index_of_21 (aCons (fVar 1) (aCons (f2 oIx (fVar 4) (fC (.int 0))) (aCons (f2 oIx (fVar 4) (fC (.int 1))) aNil)))) aNil)) (fCallB (o1 oRepr) (aCons (fVar 5) aNil))))) (sCons (sRet (fC (.bl false)))
      sNil) sNil)
      sNil))) (n := 4)
    (fun i ρ T => Ext p S T ∧ Pot T p (n + 1 + 2 * i) ∧ ∃ (m : Nat) (w1 w2 : Option D), m + 60 ≤ 80 * 2 ^ i ∧ ρ = [some (.ref p), some (.int a), some (.ref q), some (.int (1 + (d0 : Int))), some (ppD a m), some (.int (m : Int)), w1, w2])
    (fun i ρ T hi ⟨hE, hPT, m, w1, w2, hm, hρ⟩ => by
      subst hρ
      have hm2 : 80 * 2 ^ i ≤ 80 * 2 ^ 3 := Nat.mul_le_mul_left _ (Nat.pow_le_pow_right (by decide) (by omega))
      have hp2 : 80 * 2 ^ (i + 1) = 80 * 2 ^ i + 80 * 2 ^ i := by rw [Nat.pow_succ]; omega
      obtain ⟨d, U, u0, u1, u2, u3⟩ := take_k (u := 2) hPT (by omega) (by decide) Sm.lit
      have hRU : Row U a q := (hR.ext hE hpq).ext u3 hpq
      -- the tests behind
      have fin : ∀ (m' : Nat) (V : Store) (w : Option D), m' ≤ 1300 → (sCons (sIf (fOr (fB (f2 (oEq true) (f2 (oI oTrue fun i j => i - j) (f2 (oI cMul fun i j => i * j) (f2 oIx (fVar 4) (fC (.int 0))) (f2 oIx (fVar 4) (fC (.int 0)))) (f2 (oI cMul fun i j => i * j) (f2 (oI cMul fun i j => i * j) (f2 (oI oTrue fun i j => i - j) (f2 (oI cMul fun i j => i * j) (fVar 1) (fVar 1)) (fC (.int 1))) (f2 oIx (fVar 4) (fC (.int 1)))) (f2 oIx (fVar 4) (fC (.int 1))))) (fC (.int 1)))) (fB (f2 (oEq true) (fCallB (o1 oRepr) (aCons (fCall c_index_of_21 (aCons (fVar 1) (aCons (f2 oIx (fVar 4) (fC (.int 0))) (aCons (f2 oIx (fVar 4) (fC (.int 1))) aNil)))) aNil)) (fCallB (o1 oRepr) (aCons (fVar 5) aNil))))) (sCons (sRet (fC (.bl false)))
          sNil) sNil)
          sNil) [some (.ref p), some (.int a), some (.ref q), some (.int (1 + (d0 : Int))), some (ppD a m'), some (.int (m' : Int)), some (.int (0 + (i : Int) * 1)), w] V = .ok (.nx [some (.ref p), some (.int a), some (.ref q), some (.int (1 + (d0 : Int))), some (ppD a m'), some (.int (m' : Int)), some (.int (0 + (i : Int) * 1)), w]) V := by
        intro m' V w hm'
        obtain ⟨s1, s2⟩ := pp_sm h1 h2 m'
        have e1 := s1.cMul s1 (by omega)
        have e2 := sb.cMul s2 (by omega)
        have e3 := (sb.mul s2).cMul s2 (by omega)
        have hix := index_pp h1 h2 m' (by omega) (S := V)
        have hpe := pp_eq a m'
        obtain ⟨t, ht, _⟩ := repr_ne (shw_nat (n := m') (by omega)) (S := V)
        unfold ppD
        generalize pp a m' = r at *
        simp [da, e1, e2, e3, hpe, hix, ht, sEq_self]
      by_cases c : d = 0
      · subst c
        have hdb := doubled_pp h1 h2 m (by omega) (S := U)
        have e4 : cMul 2 (m : Int) = true := (Sm.lit : Sm 2 2).cMul (Sm.of_nat (n := 12) (by omega)) (by decide)
        have e5 : (2 : Int) * (m : Int) = ((m + m : Nat) : Int) := by omega
        refine ⟨_, T, .nx [some (.ref p), some (.int a), some (.ref q), some (.int (1 + (d0 : Int))), some (ppD a (m + m)), some (.int ((m + m : Nat) : Int)), some (.int (0 + (i : Int) * 1)), w2], _, U, rfl, ?_, .inl rfl, hE.trans u3, ⟨?_⟩, m + m, _, _, by omega, rfl⟩
        · have f := fin (m + m) U w2 (by omega)
          rw [sCons_ap]
          have hA : (sIf (fB (f2 (oEq false) (fCall c__law_take_27 (aCons (fVar 0) (aCons (fC (.int 2)) aNil))) (fC (.int 0)))) (sCons (sPar [4, 5] (aCons (fCall c_doubled_23 (aCons (fVar 1) (aCons (fVar 4) aNil))) (aCons (f2 (oI cMul fun i j => i * j) (fC (.int 2)) (fVar 5)) aNil)))
              sNil) (sCons (sAsg (fCall c__law_take_27 (aCons (fVar 0) (aCons (fC (.int 60)) aNil))) (gNm 7))
              (sCons (sPar [4, 5] (aCons (fCall c_summed_24 (aCons (fVar 1) (aCons (fVar 4) (aCons (f2 oIx (fVar 2) (fVar 7)) aNil)))) (aCons (f2 oAdd (fVar 5) (fVar 7)) aNil)))
              sNil))) [some (.ref p), some (.int a), some (.ref q), some (.int (1 + (d0 : Int))), some (ppD a m), some (.int (m : Int)), some (.int (0 + (i : Int) * 1)), w2] T = .ok (.nx [some (.ref p), some (.int a), some (.ref q), some (.int (1 + (d0 : Int))), some (ppD a (m + m)), some (.int ((m + m : Nat) : Int)), some (.int (0 + (i : Int) * 1)), w2]) U := by
            unfold ppD at *
            generalize pp a m = r at *
            generalize pp a (m + m) = r' at *
            simp only [Int.natCast_zero] at u0
            simp [u0, hdb, e4, e5]
          show (R.bind (_ : R Fl) _) = _
          rw [show (List.set [some (D.ref p), some (D.int a), some (D.ref q), some (D.int (1 + (d0 : Int))), some (ppD a m), some (D.int (m : Int)), w1, w2] 6 (some (D.int (0 + (i : Int) * 1)))) = [some (.ref p), some (.int a), some (.ref q), some (.int (1 + (d0 : Int))), some (ppD a m), some (.int (m : Int)), some (.int (0 + (i : Int) * 1)), w2] from rfl, hA]
          exact f
        · obtain ⟨x, y, z, r1, r2, r3, r4, r5, r6, r7⟩ := u2.at_
          exact ⟨x, y, z, r1, r2, r3, r4, r5, r6, by omega⟩
      · obtain ⟨o, V, v0, v1, v2, v3⟩ := take_k (u := 60) u2 (by omega) (by decide) Sm.lit
        have hRV : Row V a q := hRU.ext v3 hpq
        have hsm := summed_pp h1 h2 m o (by omega) (by omega) (S := V)
        have hat := row_at (a := a) (k := o) (by omega)
        have e5 : (m : Int) + (o : Int) = ((m + o : Nat) : Int) := by omega
        have hd0 : ((d : Int) == 0) = false := by rw [beq_eq_false_iff_ne]; omega
        refine ⟨_, T, .nx [some (.ref p), some (.int a), some (.ref q), some (.int (1 + (d0 : Int))), some (ppD a (m + o)), some (.int ((m + o : Nat) : Int)), some (.int (0 + (i : Int) * 1)), some (.int (o : Int))], _, V, rfl, ?_, .inl rfl, (hE.trans u3).trans v3, ⟨?_⟩, m + o, _, _, by omega, rfl⟩
        · have f := fin (m + o) V (some (.int (o : Int))) (by omega)
          rw [sCons_ap]
          have hA : (sIf (fB (f2 (oEq false) (fCall c__law_take_27 (aCons (fVar 0) (aCons (fC (.int 2)) aNil))) (fC (.int 0)))) (sCons (sPar [4, 5] (aCons (fCall c_doubled_23 (aCons (fVar 1) (aCons (fVar 4) aNil))) (aCons (f2 (oI cMul fun i j => i * j) (fC (.int 2)) (fVar 5)) aNil)))
              sNil) (sCons (sAsg (fCall c__law_take_27 (aCons (fVar 0) (aCons (fC (.int 60)) aNil))) (gNm 7))
              (sCons (sPar [4, 5] (aCons (fCall c_summed_24 (aCons (fVar 1) (aCons (fVar 4) (aCons (f2 oIx (fVar 2) (fVar 7)) aNil)))) (aCons (f2 oAdd (fVar 5) (fVar 7)) aNil)))
              sNil))) [some (.ref p), some (.int a), some (.ref q), some (.int (1 + (d0 : Int))), some (ppD a m), some (.int (m : Int)), some (.int (0 + (i : Int) * 1)), w2] T = .ok (.nx [some (.ref p), some (.int a), some (.ref q), some (.int (1 + (d0 : Int))), some (ppD a (m + o)), some (.int ((m + o : Nat) : Int)), some (.int (0 + (i : Int) * 1)), some (.int (o : Int))]) V := by
            unfold Row at hRV
            generalize ((List.range 201).map fun i => ppD a i) = l at *
            unfold ppD at *
            generalize pp a m = r at *
            generalize pp a (m + o) = r' at *
            generalize pp a o = r'' at *
            simp [u0, hd0, v0, hRV, hat, hsm, e5, -List.getElem?_map, -Int.natCast_add]
          show (R.bind (_ : R Fl) _) = _
          rw [show (List.set [some (D.ref p), some (D.int a), some (D.ref q), some (D.int (1 + (d0 : Int))), some (ppD a m), some (D.int (m : Int)), w1, w2] 6 (some (D.int (0 + (i : Int) * 1)))) = [some (.ref p), some (.int a), some (.ref q), some (.int (1 + (d0 : Int))), some (ppD a m), some (.int (m : Int)), some (.int (0 + (i : Int) * 1)), w2] from rfl, hA]
          exact f
        · obtain ⟨x, y, z, r1, r2, r3, r4, r5, r6, r7⟩ := v2.at_
          exact ⟨x, y, z, r1, r2, r3, r4, r5, r6, by omega⟩) (ρ := [some (.ref p), some (.int a), some (.ref q), some (.int (1 + (d0 : Int))), some (ppD a (1 + d0)), some (.int (1 + (d0 : Int))), none, none]) (S := S0)
      ⟨t3, ⟨by obtain ⟨x, y, z, r1, r2, r3, r4, r5, r6, r7⟩ := t2.at_; exact ⟨x, y, z, r1, r2, r3, r4, r5, r6, by omega⟩⟩, 1 + d0, none, none, by omega, by simp⟩
  subst hρ
  have hcnt : ∀ m, (srcRg 0 1 m).cnt = m := fun _ => rfl
  simp only [hcnt] at hf
  refine ⟨_, cf_rt (n := 3) (m := 8) (d := .bl true) (S' := T) ?_, hE.drop⟩
  have hat := row_at (a := a) (k := 1 + d0) (by omega)
  have e0 : (1 : Int) + (d0 : Int) = ((1 + d0 : Nat) : Int) := by omega
  have hm3 : m ≤ 1220 := by omega
  obtain ⟨s1, s2⟩ := pp_sm h1 h2 m
  obtain ⟨p1, p2⟩ := pp_pos h1 m
  have hpe := pp_eq a m
  have hb0 : (3 : Int) ≤ a * a - 1 := by
    have h4 : 2 * 2 ≤ a * a := Int.mul_le_mul h1 h1 (by decide) (by omega)
    omega
  -- neither of the two near ones
  have n1 : c_index_of_21 [.int a, .int ((pp a m).1 + 1), .int (pp a m).2] T = .ok .non T := by
    refine index_no h1 h2 ?_
    rw [pair_int h1 h2 (n := 10 * m + 2) (s1.add ((Sm.lit : Sm 1 1).mono (by omega))) (s2.mono (by omega)) (by omega)]
    have : ((pp a m).1 + 1) * ((pp a m).1 + 1) - (a * a - 1) * (pp a m).2 * (pp a m).2 ≠ 1 := by
      have : ((pp a m).1 + 1) * ((pp a m).1 + 1) = (pp a m).1 * (pp a m).1 + (2 * (pp a m).1 + 1) := by
        rw [Int.add_mul, Int.mul_add, Int.mul_add]; omega
      omega
    simp [this]
  have n2 : c_index_of_21 [.int a, .int (pp a m).1, .int ((pp a m).2 + 2)] T = .ok .non T := by
    refine index_no h1 h2 ?_
    rw [pair_int h1 h2 (n := 10 * m + 3) (s1.mono (by omega)) ((s2.mono (show 10 * m + 1 ≤ 10 * m + 2 by omega)).add ((Sm.lit : Sm 2 2).mono (by omega))) (by omega)]
    have : (pp a m).1 * (pp a m).1 - (a * a - 1) * ((pp a m).2 + 2) * ((pp a m).2 + 2) ≠ 1 := by
      have e : (a * a - 1) * ((pp a m).2 + 2) * ((pp a m).2 + 2) = (a * a - 1) * (pp a m).2 * (pp a m).2 + (a * a - 1) * (4 * (pp a m).2 + 4) := by
        rw [Int.mul_assoc, Int.mul_assoc, ← Int.mul_add]
        congr 1
        rw [Int.add_mul, Int.mul_add, Int.mul_add]; omega
      have g : 3 * 4 ≤ (a * a - 1) * (4 * (pp a m).2 + 4) := Int.mul_le_mul hb0 (by omega) (by decide) (by omega)
      omega
    simp [this]
  obtain ⟨t, ht, _⟩ := repr_ne (shw_pp h1 h2 m (by omega)) (S := T)
  have hpl : m < 201 → c_pell_18 [.int a, .int m] T = .ok (ppD a m) T := fun h => pell_pp h1 h2 m (by omega)
  have h62 : ok62 4 = true := by decide
  rw [e0] at hf
  unfold Row at hR0
  generalize ((List.range 201).map fun i => ppD a i) = l at *
  unfold ppD at *
  generalize pp a m = r at *
  generalize pp a (1 + d0) = r' at *
  by_cases c : m < 201
  · have hpl := hpl c
    have c' : (m : Int) < 201 := by omega
    simp [m__law_are_great_right_33, t0, e0, hR0, hat, h62, hf, hcnt, c', ht, hpl, sEq_self, n1, n2, -List.getElem?_map, -Int.natCast_add]
  · have c' : ¬ (m : Int) < 201 := by omega
    simp [m__law_are_great_right_33, t0, e0, hR0, hat, h62, hf, hcnt, c', n1, n2, -List.getElem?_map, -Int.natCast_add]
end Lw

namespace Lw
open PySem MP

theorem Pot.mono {S : Store} {p n m : Nat} (h : Pot S p n) (hm : n ≤ m) : Pot S p m := by
  obtain ⟨x, y, z, r1, r2, r3, r4, r5, r6, r7⟩ := h.at_
  exact ⟨x, y, z, r1, r2, r3, r4, r5, r6, by omega⟩
theorem Pot.ext {S S' : Store} {p n : Nat} (h : Pot S p n) (e : Gr S S') : Pot S' p n := by
  obtain ⟨x, y, z, r1, r2⟩ := h.at_
  exact ⟨x, y, z, (e.at_ p (List.getElem?_eq_some_iff.mp r1).1).trans r1, r2⟩
theorem Pot.lt {S : Store} {p n : Nat} (h : Pot S p n) : p < S.length := by
  obtain ⟨x, y, z, r1, r2⟩ := h.at_
  exact (List.getElem?_eq_some_iff.mp r1).1
/-- six drawn numbers -/
theorem draw_ok {ρ : Rho} {S : Store} {p n : Nat} (hρ : ρ[0]? = some (some (.ref p))) (hl : ρ.length = 10) (h : Pot S p n) (hn : n ≤ 1000) :
    ∃ (ks : List Nat) (S' : Store), fComp (fRange1 (aCons (fC (.int 6)) aNil)) (cNm 9) (fC (.bl true)) (fCall c__law_take_27 (aCons (fVar 0) (aCons (fC (.int 201)) aNil))) [9] ρ S = .ok (.ref S'.length) (S' ++ [.lst (ks.map fun k => D.int (k : Nat))]) ∧
      (∀ k ∈ ks, k < 201) ∧ Pot S' p (n + 6) ∧ Ext p S S' ∧ ks.length = 6 := by
  have hw : (wipeR ρ [9])[0]? = some (some (.ref p)) := by
    show (ρ.set 9 none)[0]? = _
    rw [List.getElem?_set_ne (by decide)]
    exact hρ
  obtain ⟨es, S', hv, ks, hes, hks, hP, hE, hkl⟩ := compV_inv (item := (srcRg 0 1 6).item) (tg := cNm 9) (flt := fC (.bl true)) (elt := fCall c__law_take_27 (aCons (fVar 0) (aCons (fC (.int 201)) aNil))) (n := 6) (ρ := wipeR ρ [9])
    (fun i T ds => ∃ ks : List Nat, ds = ks.map (fun k => D.int (k : Nat)) ∧ (∀ k ∈ ks, k < 201) ∧ Pot T p (n + i) ∧ Ext p S T ∧ ks.length = i)
    (fun i T ds hi ⟨ks, hds, hks, hP, hE, hkl⟩ => by
      obtain ⟨d, U, u0, u1, u2, u3⟩ := take_k (u := 201) hP (by omega) (by decide) Sm.lit
      refine ⟨.int (0 + i * 1), (wipeR ρ [9]).set 9 (some (.int (0 + i * 1))), T, .int d, U, by simp [srcRg, hi], rfl, rfl, ?_, ks ++ [d], by simp [hds], ?_, u2, hE.trans u3, by simp [hkl]⟩
      · have : ((wipeR ρ [9]).set 9 (some (.int (0 + i * 1))))[0]? = some (some (.ref p)) := by rw [List.getElem?_set_ne (by decide)]; exact hw
        simp only [fCall_ap, aCons_ap, aNil_ap, fVar_ap, fC_ap, this, R.bind_ok, u0]
      · intro k hk
        rcases List.mem_append.mp hk with hk | hk
        · exact hks k hk
        · have := List.mem_singleton.mp hk
          omega)
    (fun T ds _ => by simp [srcRg]) 6 0 S [] (by omega) ⟨[], rfl, (fun _ h => absurd h List.not_mem_nil), hP0 h, .refl, rfl⟩
  refine ⟨ks, S', ?_, hks, hP, hE, hkl⟩
  have h62 : ok62 6 = true := by decide
  have hcnt : ∀ m, (srcRg 0 1 m).cnt = m := fun _ => rfl
  unfold fComp
  simp only [fRange1_ap, aCons_ap, aNil_ap, fC_ap, R.bind_ok, h62, if_true, hcnt]
  show (if Nat.blt 6 16777216 then noX (compV (srcRg 0 1 6).item _ _ _ (6 + 1) 0 (wipeR ρ [9]) S) _ else _) = _
  rw [if_pos (by decide), hv]
  simp only [noX_ap]
  rw [List.nil_append] at hes
  rw [hes]
where hP0 {S : Store} {p n : Nat} (h : Pot S p n) : Pot S p (n + 0) := h
end Lw

namespace Lw
open PySem MP

/-- what is asked of one number of the row -/
def bRow : FS := (sCons (sAsg (f2 oIx (fVar 2) (fVar 3)) (gTp 2 (gsCons (gNm 4) (gsCons (gNm 5) gsNil))))
      (sCons (sIf (fOr (fB (f2 (oEq true) (fCallB (o1 oRepr) (aCons (fKw c_pell_18 0 2 [1, 0] aNil (aCons (fVar 3) (aCons (fVar 1) aNil))) aNil)) (fCallB (o1 oRepr) (aCons (fTup (aCons (fVar 4) (aCons (fVar 5) aNil))) aNil)))) (fB (f2 (oEq true) (fCallB (o1 oRepr) (aCons (fCall c_index_of_21 (aCons (fVar 1) (aCons (fVar 4) (aCons (fVar 5) aNil)))) aNil)) (fCallB (o1 oRepr) (aCons (fVar 3) aNil))))) (sCons (sRet (fC (.bl false)))
      sNil) sNil)
      (sCons (sIf (fOr (fB (f2 (oIs true) (fCall c_index_of_21 (aCons (fVar 1) (aCons (f2 (oI oTrue fun i j => i - j) (fC (.int 0)) (fVar 4)) (aCons (fVar 5) aNil)))) (fC .non))) (fB (f2 (oIs true) (fCall c_index_of_21 (aCons (fVar 1) (aCons (fVar 4) (aCons (f2 oAdd (fVar 5) (fC (.int 1))) aNil)))) (fC .non)))) (sCons (sRet (fC (.bl false)))
      sNil) sNil)
      (sCons (sIf (fB (f2 (oEq true) (fCallB (o1 oRepr) (aCons (fCall c_doubled_23 (aCons (fVar 1) (aCons (fTup (aCons (fVar 4) (aCons (fVar 5) aNil))) aNil))) aNil)) (fCallB (o1 oRepr) (aCons (fTup (aCons (f2 (oI oTrue fun i j => i - j) (f2 (oI cMul fun i j => i * j) (f2 (oI cMul fun i j => i * j) (fC (.int 2)) (fVar 4)) (fVar 4)) (fC (.int 1))) (aCons (f2 (oI cMul fun i j => i * j) (f2 (oI cMul fun i j => i * j) (fC (.int 2)) (fVar 4)) (fVar 5)) aNil))) aNil)))) (sCons (sRet (fC (.bl false)))
      sNil) sNil)
      sNil))))
theorem row_ok {a : Int} (h1 : 2 ≤ a) (h2 : a ≤ 20) {k : Nat} (hk : k < 201) {S : Store} {p q : Nat} (hR : Row S a q) {w4 w5 w6 w7 w8 w9 : Option D} :
    bRow [some (.ref p), some (.int a), some (.ref q), some (.int k), w4, w5, w6, w7, w8, w9] S = .ok (.nx [some (.ref p), some (.int a), some (.ref q), some (.int k), some (.int (pp a k).1), some (.int (pp a k).2), w6, w7, w8, w9]) S := by
  have hat := row_at (a := a) hk
  have hpl := pell_pp h1 h2 k (by omega) (S := S)
  have hix := index_pp h1 h2 k (by omega) (S := S)
  have hdb := doubled_pp h1 h2 k (by omega) (S := S)
  obtain ⟨s1, s2⟩ := pp_sm h1 h2 k
  obtain ⟨p1, p2⟩ := pp_pos h1 k
  have hpe := pp_eq a k
  have hsz : szOk 2 = true := rfl
  have hb0 : (3 : Int) ≤ a * a - 1 := by
    have h4 : 2 * 2 ≤ a * a := Int.mul_le_mul h1 h1 (by decide) (by omega)
    omega
  have n1 : c_index_of_21 [.int a, .int (0 - (pp a k).1), .int (pp a k).2] S = .ok .non S := by
    refine index_no h1 h2 (pair_no1 ?_)
    rw [natural_int]
    have : ¬ 0 ≤ 0 - (pp a k).1 := by omega
    rw [decide_eq_false this]
  have n2 : c_index_of_21 [.int a, .int (pp a k).1, .int ((pp a k).2 + 1)] S = .ok .non S := by
    refine index_no h1 h2 ?_
    rw [pair_int h1 h2 (n := 10 * k + 3) (s1.mono (by omega)) ((s2.mono (show 10 * k + 1 ≤ 10 * k + 2 by omega)).add ((Sm.lit : Sm 1 1).mono (by omega))) (by omega)]
    have : (pp a k).1 * (pp a k).1 - (a * a - 1) * ((pp a k).2 + 1) * ((pp a k).2 + 1) ≠ 1 := by
      have e : (a * a - 1) * ((pp a k).2 + 1) * ((pp a k).2 + 1) = (a * a - 1) * (pp a k).2 * (pp a k).2 + (a * a - 1) * (2 * (pp a k).2 + 1) := by
        rw [Int.mul_assoc, Int.mul_assoc, ← Int.mul_add]
        congr 1
        rw [Int.add_mul, Int.mul_add, Int.mul_add]; omega
      have g : 3 * 1 ≤ (a * a - 1) * (2 * (pp a k).2 + 1) := Int.mul_le_mul hb0 (by omega) (by decide) (by omega)
      omega
    simp [this]
  have d1 : cMul 2 (pp a k).1 = true := (Sm.lit : Sm 2 2).cMul s1 (by omega)
  have d2 : cMul (2 * (pp a k).1) (pp a k).1 = true := ((Sm.lit : Sm 2 2).mul s1).cMul s1 (by omega)
  have d3 : cMul (2 * (pp a k).1) (pp a k).2 = true := ((Sm.lit : Sm 2 2).mul s1).cMul s2 (by omega)
  have e2 : ppD a (k + k) = .tup [.int (2 * (pp a k).1 * (pp a k).1 - 1), .int (2 * (pp a k).1 * (pp a k).2)] := by
    unfold ppD
    rw [pp_add]
    have x1 : (pp a k).1 * (pp a k).1 + (a * a - 1) * (pp a k).2 * (pp a k).2 = 2 * (pp a k).1 * (pp a k).1 - 1 := by rw [Int.mul_assoc 2]; omega
    have x2 : (pp a k).1 * (pp a k).2 + (pp a k).2 * (pp a k).1 = 2 * (pp a k).1 * (pp a k).2 := by rw [Int.mul_comm (pp a k).2 (pp a k).1, Int.mul_assoc 2]; omega
    rw [x1, x2]
  obtain ⟨t, ht, _⟩ := repr_ne (shw_pp h1 h2 k (by omega)) (S := S)
  obtain ⟨t', ht', _⟩ := repr_ne (shw_pp h1 h2 (k + k) (by omega)) (S := S)
  obtain ⟨t2, ht2, _⟩ := repr_ne (shw_nat (n := k) (by omega)) (S := S)
  rw [e2] at hdb ht'
  unfold Row at hR
  have hpm : permL [1, 0] [D.int (k : Nat), D.int a] = [.int a, .int k] := rfl
  generalize ((List.range 201).map fun i => ppD a i) = l at *
  unfold ppD at *
  generalize pp a k = r at *
  simp only [Int.zero_sub] at n1
  simp [bRow, hR, hat, hpl, hix, hdb, hpm, hsz, n1, n2, d1, d2, d3, ht, ht', ht2, sEq_self, -List.getElem?_map]
/-- values near to pairs, of other kinds -/
def bBad : FS := (sCons (sIf (fB (f2 (oIs true) (fCall c_index_of_21 (aCons (fVar 1) (aCons (fVar 6) (aCons (fVar 7) aNil)))) (fC .non))) (sCons (sRet (fC (.bl false)))
      sNil) sNil)
      sNil)
theorem bad_ok {a : Int} (h1 : 2 ≤ a) (h2 : a ≤ 20) {S : Store} {n : Nat} (hn : S[n]? = some (.lst [.int 1])) :
    ∀ x ∈ [D.tup [.non, .int 0], .tup [.bl true, .int 0], .tup [.int 1, .bl false], .tup [.str z0, .int 0], .tup [.int 1, .non], .tup [.tup [.int 1], .int 0], .tup [.int 1, .int (-1)], .tup [.int (pp a 1).1, .bl true], .tup [.int 0, .int 0], .tup [.ref n, .int 0]],
      ∃ v w, x = D.tup [v, w] ∧ c_index_of_21 [.int a, v, w] S = .ok .non S := by
  have no1 : ∀ (v w : D) (u : Ty), tyD S v = some u → (isTy u .int = false ∨ isTy u .bool = true) → c_index_of_21 [.int a, v, w] S = .ok .non S := fun v w u h hu => index_no h1 h2 (pair_no1 (natural_no h hu))
  have no2 : ∀ (i : Int) (w : D) (u : Ty), tyD S w = some u → (isTy u .int = false ∨ isTy u .bool = true) → c_index_of_21 [.int a, .int i, w] S = .ok .non S := fun i w u h hu => index_no h1 h2 (pair_no2 natural_int (natural_no h hu))
  intro x hx
  simp only [List.mem_cons, List.not_mem_nil, or_false] at hx
  rcases hx with rfl | rfl | rfl | rfl | rfl | rfl | rfl | rfl | rfl | rfl
  · exact ⟨_, _, rfl, no1 _ _ .non rfl (.inl rfl)⟩
  · exact ⟨_, _, rfl, no1 _ _ .bool rfl (.inr rfl)⟩
  · exact ⟨_, _, rfl, no2 _ _ .bool rfl (.inr rfl)⟩
  · exact ⟨_, _, rfl, no1 _ _ .str rfl (.inl rfl)⟩
  · exact ⟨_, _, rfl, no2 _ _ .non rfl (.inl rfl)⟩
  · exact ⟨_, _, rfl, no1 _ _ .tuple rfl (.inl rfl)⟩
  · exact ⟨_, _, rfl, index_no h1 h2 (pair_no2 natural_int natural_int)⟩
  · exact ⟨_, _, rfl, no2 _ _ .bool rfl (.inr rfl)⟩
  · refine ⟨_, _, rfl, index_no h1 h2 ?_⟩
    rw [pair_int h1 h2 (n := 1) Sm.lit Sm.lit (by decide)]
    simp
  · exact ⟨_, _, rfl, no1 _ _ .list (by simp [tyD, hn]) (.inl rfl)⟩
theorem right_ok {S : Store} {p : Nat} (hP : Pot S p 0) : ∃ S', c__law_right_34 [.ref p] S = .ok (.bl true) S' ∧ Ext p S S' := by
  obtain ⟨d, S1, t0, t1, t2, t3⟩ := take_k (u := 19) hP (by omega) (by decide) Sm.lit
  obtain ⟨a, ha⟩ : ∃ a : Int, a = 2 + (d : Int) := ⟨_, rfl⟩
  have h1 : 2 ≤ a := by omega
  have h2 : a ≤ 20 := by omega
  obtain ⟨S2, u0, u1, hrow⟩ := pairs_pp h1 h2 200 (by decide) (S := S1)
  have u0' : c__law_pairs_30 [.int a, .int 201] S1 = .ok (.ref S1.length) S2 := u0
  have hrow : Row S2 a S1.length := hrow
  have hP2 : Pot S2 p 1 := (Pot.mono (Pot.ext t2 u1) (by omega))
  have hpq : S1.length ≠ p := Nat.ne_of_gt (Pot.lt t2)
  have hp2 : p < S2.length := Pot.lt hP2
  have hE2 : Ext p S S2 := t3.trans u1.ext
  have hsz1 : szOk 1 = true := rfl
  have hsz2 : szOk 2 = true := rfl
  have hsz3 : szOk 3 = true := rfl
  have hsz10 : szOk 10 = true := rfl
  -- the numbers that are asked for
  obtain ⟨ks, S4, v0, v1, v2, v3, vl⟩ := draw_ok (ρ := [some (.ref p), some (.int a), some (.ref S1.length), none, none, none, none, none, none, none]) (S := S2 ++ [.lst [.int 0, .int 1, .int 200]]) rfl rfl (Pot.ext hP2 .app) (by omega)
  have hl0 : (S4 ++ [.lst (ks.map fun k => D.int (k : Nat))])[S2.length]? = some (.lst [.int 0, .int 1, .int 200]) := by
    have hlt : S2.length < S4.length := Nat.lt_of_lt_of_le (by simp) v3.le
    rw [get_old hlt, v3.at_ _ (by simp) (by omega), get_new]
  have hadd : oAdd (.ref S2.length) (.ref S4.length) (S4 ++ [.lst (ks.map fun k => D.int (k : Nat))]) = some (.ref (S4.length + 1), (S4 ++ [.lst (ks.map fun k => D.int (k : Nat))]) ++ [.lst ((0 :: 1 :: 200 :: ks).map fun k => D.int (k : Nat))]) := by
    unfold oAdd
    simp only [hl0, get_new]
    rw [if_pos (Nat.ble_eq_true_of_le (by simp [vl, lim]))]
    simp
  obtain ⟨S6, hS6⟩ : ∃ S6, S6 = (S4 ++ [.lst (ks.map fun k => D.int (k : Nat))]) ++ [.lst ((0 :: 1 :: 200 :: ks).map fun k => D.int (k : Nat))] := ⟨_, rfl⟩
  have hG6 : Gr S4 S6 := by rw [hS6]; exact Gr.app.trans .app
  have hE6 : Ext p S2 S6 := (Ext.app.trans v3).trans hG6.ext
  have hR6 : Row S6 a S1.length := hrow.ext hE6 hpq
  have hP6 : Pot S6 p 7 := Pot.ext v2 hG6
  have hr6 : S6[S4.length + 1]? = some (.lst ((0 :: 1 :: 200 :: ks).map fun k => D.int (k : Nat))) := by
    have e : S4.length + 1 = (S4 ++ [MO.lst (ks.map fun k => D.int (k : Nat))]).length := by simp
    rw [hS6, e, get_new]
  have hall : ∀ k ∈ (0 :: 1 :: 200 :: ks), k < 201 := by
    intro k hk
    simp only [List.mem_cons] at hk
    rcases hk with rfl | rfl | rfl | hk
    · decide
    · decide
    · decide
    · exact v1 k hk
  have hsrc := srcOf_ref hr6
  obtain ⟨ρ1, T1, hf1, hT1, w3, w4, w5, hρ1⟩ := for_lst (r := S4.length + 1) (xs := (0 :: 1 :: 200 :: ks).map fun k => D.int (k : Nat)) (g := gNm 3) (b := bRow)
    (fun i ρ T => T = S6 ∧ ∃ w3 w4 w5 : Option D, ρ = [some (.ref p), some (.int a), some (.ref S1.length), w3, w4, w5, none, none, none, none])
    (fun i ρ T ⟨hT, _⟩ => by rw [hT]; exact hr6)
    (fun i x ρ T hx ⟨hT, w3, w4, w5, hρ⟩ => by
      subst hT hρ
      obtain ⟨k, hk, rfl⟩ : ∃ k, k ∈ (0 :: 1 :: 200 :: ks) ∧ x = D.int (k : Nat) := by
        have := List.mem_of_getElem? hx
        obtain ⟨k, h3, h4⟩ := List.mem_map.mp this
        exact ⟨k, h3, h4.symm⟩
      exact ⟨_, _, _, _, _, rfl, row_ok h1 h2 (hall k hk) hR6, .inl rfl, rfl, _, _, _, rfl⟩)
    (ρ := [some (.ref p), some (.int a), some (.ref S1.length), none, none, none, none, none, none, none]) (S := S6) ⟨rfl, none, none, none, rfl⟩
  subst hT1 hρ1
  -- other values
  have h7 : (T1 ++ [MO.lst [.int 1]])[T1.length]? = some (.lst [.int 1]) := get_new
  obtain ⟨S7, hS7⟩ : ∃ S7, S7 = T1 ++ [MO.lst [.int 1]] := ⟨_, rfl⟩
  rw [← hS7] at h7
  have hbad := bad_ok h1 h2 h7
  have hG7 : Gr T1 S7 := by rw [hS7]; exact .app
  have hR7 : Row S7 a S1.length := hR6.ext (p := p) hG7.ext hpq
  have hP7 : Pot S7 p 7 := Pot.ext hP6 hG7
  obtain ⟨xs, hxs⟩ : ∃ xs, xs = [D.tup [.non, .int 0], .tup [.bl true, .int 0], .tup [.int 1, .bl false], .tup [.str z0, .int 0], .tup [.int 1, .non], .tup [.tup [.int 1], .int 0], .tup [.int 1, .int (-1)], .tup [.int (pp a 1).1, .bl true], .tup [.int 0, .int 0], .tup [.ref T1.length, .int 0]] := ⟨_, rfl⟩
  rw [← hxs] at hbad
  have hxl : xs.length = 10 := by rw [hxs]; rfl
  obtain ⟨ρ2, T2, hf2, hT2, w6, w7, hρ2⟩ := for_tup (xs := xs) (g := gTp 2 (gsCons (gNm 6) (gsCons (gNm 7) gsNil))) (b := bBad)
    (fun i ρ T => T = S7 ∧ ∃ w6 w7 : Option D, ρ = [some (.ref p), some (.int a), some (.ref S1.length), w3, w4, w5, w6, w7, none, none])
    (fun i x ρ T hx ⟨hT, w6, w7, hρ⟩ => by
      subst hT hρ
      obtain ⟨v, w, rfl, hi⟩ := hbad x (List.mem_of_getElem? hx)
      refine ⟨[some (.ref p), some (.int a), some (.ref S1.length), w3, w4, w5, some v, some w, none, none], T, .nx [some (.ref p), some (.int a), some (.ref S1.length), w3, w4, w5, some v, some w, none, none], _, T, by simp, ?_, .inl rfl, rfl, _, _, rfl⟩
      simp [bBad, hi])
    (ρ := [some (.ref p), some (.int a), some (.ref S1.length), w3, w4, w5, none, none, none, none]) (S := S7) ⟨rfl, none, none, rfl⟩
  subst hT2 hρ2
  rw [hxl] at hf2
  -- a sum
  obtain ⟨o, S8, x0, x1, x2, x3⟩ := take_k (u := 100) hP7 (by omega) (by decide) Sm.lit
  obtain ⟨o', S9, y0, y1, y2, y3⟩ := take_k (u := 101) x2 (by omega) (by decide) Sm.lit
  have hR9 : Row S9 a S1.length := (hR7.ext x3 hpq).ext y3 hpq
  have hsm := summed_pp h1 h2 o o' (by omega) (by omega) (S := S9)
  have a1 := row_at (a := a) (k := o) (by omega)
  have a2 := row_at (a := a) (k := o') (by omega)
  have a3 := row_at (a := a) (k := o + o') (by omega)
  have e3 : (o : Int) + (o' : Int) = ((o + o' : Nat) : Int) := by omega
  obtain ⟨t, ht, _⟩ := repr_ne (shw_pp h1 h2 (o + o') (by omega)) (S := S9)
  -- what solves; great ones
  obtain ⟨c, S10, z0', z1, z2, z3⟩ := take_k (u := 60) y2 (by omega) (by decide) Sm.lit
  obtain ⟨S11, g0, g1⟩ := solved_ok h1 h2 (u := 60 + c) (by omega) (S := S10)
  have hR11 : Row S11 a S1.length := (hR9.ext z3 hpq).ext g1.ext hpq
  obtain ⟨S12, k0, k1⟩ := great_ok h1 h2 (Pot.ext z2 g1) (by omega) hR11 hpq
  have hEE : Ext p S S12 := (((((((hE2.trans hE6).trans hG7.ext).trans x3).trans y3).trans z3).trans g1.ext).trans k1)
  refine ⟨_, cf_rt (n := 1) (m := 10) (d := .bl true) (S' := S12) ?_, hEE.drop⟩
  have e4 : (60 : Int) + (c : Int) = ((60 + c : Nat) : Int) := by omega
  have a4 := row_at (a := a) (k := 1) (by decide)
  show m__law_right_34 [some (.ref p), none, none, none, none, none, none, none, none, none] S = _
  unfold m__law_right_34
  refine seq_ok (ρ1 := [some (.ref p), some (.int a), none, none, none, none, none, none, none, none]) (S1 := S1) (by simp [t0, ha]) ?_
  refine seq_ok (ρ1 := [some (.ref p), some (.int a), some (.ref S1.length), none, none, none, none, none, none, none]) (S1 := S2) (by simp [u0']) ?_
  refine seq_ok (ρ1 := [some (.ref p), some (.int a), some (.ref S1.length), w3, w4, w5, none, none, none, none]) (S1 := T1) ?_ ?_
  · rw [← hS6] at hadd
    show withE _ _ _ = _
    have hI : fIter (f2 oAdd (fLst (aCons (fC (.int 0)) (aCons (fC (.int 1)) (aCons (fC (.int 200)) aNil)))) (fComp (fRange1 (aCons (fC (.int 6)) aNil)) (cNm 9) (fC (.bl true)) (fCall c__law_take_27 (aCons (fVar 0) (aCons (fC (.int 201)) aNil))) [9])) [some (.ref p), some (.int a), some (.ref S1.length), none, none, none, none, none, none, none] S2 = .ok ⟨[.ref (S4.length + 1)], itL (S4.length + 1), ((0 :: 1 :: 200 :: ks).map fun k => D.int (k : Nat)).length⟩ T1 := by
      simp only [fIter_ap, f2_ap, fLst_ap, aCons_ap, aNil_ap, fC_ap, R.bind_ok, List.length_cons, List.length_nil, hsz3, if_true, v0, hadd, R.of_some, hsrc]
    rw [hI]
    exact hf1
  refine seq_ok (ρ1 := [some (.ref p), some (.int a), some (.ref S1.length), w3, w4, w5, w6, w7, none, none]) (S1 := T2) ?_ ?_
  · show withE _ _ _ = _
    have hI : fIter (fTup (aCons (fTup (aCons (fC .non) (aCons (fC (.int 0)) aNil))) (aCons (fTup (aCons (fC (.bl true)) (aCons (fC (.int 0)) aNil))) (aCons (fTup (aCons (fC (.int 1)) (aCons (fC (.bl false)) aNil))) (aCons (fTup (aCons (fC (.str z0)) (aCons (fC (.int 0)) aNil))) (aCons (fTup (aCons (fC (.int 1)) (aCons (fC .non) aNil))) (aCons (fTup (aCons (fTup (aCons (fC (.int 1)) aNil)) (aCons (fC (.int 0)) aNil))) (aCons (fTup (aCons (fC (.int 1)) (aCons (f1 (oU fun i => -i) (fC (.int 1))) aNil))) (aCons (fTup (aCons (f2 oIx (f2 oIx (fVar 2) (fC (.int 1))) (fC (.int 0))) (aCons (fC (.bl true)) aNil))) (aCons (fTup (aCons (fC (.int 0)) (aCons (fC (.int 0)) aNil))) (aCons (fTup (aCons (fLst (aCons (fC (.int 1)) aNil)) (aCons (fC (.int 0)) aNil))) aNil))))))))))) [some (.ref p), some (.int a), some (.ref S1.length), w3, w4, w5, none, none, none, none] T1 = .ok ⟨[.tup xs], fun _ i => some xs[i]?, 10⟩ T2 := by
      unfold Row at hR6
      generalize ((List.range 201).map fun i => ppD a i) = l at *
      unfold ppD at *
      generalize pp a 1 = r at *
      simp [hR6, a4, hsz1, hsz2, hsz10, ← hxs, ← hS7, hxl, -List.getElem?_map]
    rw [hI]
    exact hf2
  refine seq_ok (ρ1 := [some (.ref p), some (.int a), some (.ref S1.length), w3, w4, w5, w6, some (.int o'), some (.int o), none]) (S1 := S9) (by simp [x0, y0]) ?_
  refine seq_ok (ρ1 := [some (.ref p), some (.int a), some (.ref S1.length), w3, w4, w5, w6, some (.int o'), some (.int o), none]) (S1 := S9) ?_ ?_
  · unfold Row at hR9
    generalize ((List.range 201).map fun i => ppD a i) = l at *
    unfold ppD at *
    generalize pp a o = r1 at *
    generalize pp a o' = r2 at *
    generalize pp a (o + o') = r3 at *
    simp [hR9, a1, a2, a3, e3, hsm, ht, sEq_self, -List.getElem?_map, -Int.natCast_add]
  · simp [z0', e4, g0, k0, -Int.natCast_add]
theorem law_holds (ns : List Int) (h1 : ns.length ≤ 63) (h2 : ∀ z ∈ ns, Builtin.Int.intBits z ≤ 1048576) : ∃ S, c_law_35 [.rl (ns.map D.int)] [] = .ok (.bl true) S :=
  law_top (cCells := c__law_cells_28) (cPot := c__law_pot_26) (cRight := c__law_right_34) (m := 2) (k1 := 1667) (k2 := 1625) (k3 := 87239) (k4 := 10513) (k5 := 753) (by decide) (by decide) rfl rfl Sm.lit Sm.lit Sm.lit Sm.lit Sm.lit (fun S p h => right_ok h) ns h1 h2
end Lw

open PySem PySem.W PyProof.Rows
set_option maxRecDepth 100000 in
set_option maxHeartbeats 0 in
theorem PySem.Challenge.cw_runroots_k51_whole_pairs_of_doubling_row_holds : PySem.Challenge.rw_runroots_k51_whole_pairs_of_doubling_row.Holds := by
  w_on; o_law; k_head; (case hw => w_witness2)
  k_fill
  refine Lw.walk (l := PySem.Challenge.rw_runroots_k51_whole_pairs_of_doubling_row) rfl rfl rfl (fun w h Y => PySem.W.kIn_of Y) ?F Lw.law_holds
  case F =>
    intro w mg h KX G
    refine' Lw.tx_mk KX G ?cs ?zb_abs ?zb_all ?zb_bool ?zb_int ?zb_isinstance ?zb_len ?zb_list ?zb_max ?zb_min ?zb_range ?zb_repr ?zb_sum ?zb_tuple ?zg_LEAST_STEP ?zg_MOST_INDEX ?zg_MOST_STEP ?zg_PAIR ?a0_0 ?l0 ?q0 ?k0 ?a1_0 ?l1 ?q1 ?k1 ?a2_0 ?l2 ?q2 ?k2 ?a3_0 ?l3 ?q3 ?k3 ?a4_0 ?l4 ?q4 ?k4 ?a5_0 ?l5 ?q5 ?k5 ?a6_0 ?l6 ?q6 ?k6 ?a7_0 ?l7 ?q7 ?k7 ?a8_0 ?l8 ?q8 ?k8 ?a9_0 ?l9 ?q9 ?k9 ?a10_0 ?l10 ?q10 ?k10 ?a11_0 ?l11 ?q11 ?k11 ?a12_0 ?l12 ?q12 ?k12 ?a13_0 ?l13 ?q13 ?k13 ?a14_0 ?l14 ?q14 ?k14 ?a15_0 ?l15 ?q15 ?k15 ?a16_0 ?l16 ?q16 ?k16 ?a17_0 ?l17 ?q17 ?k17 ?a18_0 ?l18 ?q18 ?k18 ?a19_0 ?l19 ?q19 ?k19 ?a20_0 ?l20 ?q20 ?k20 ?a21_0 ?l21 ?q21 ?k21 ?a22_0 ?l22 ?q22 ?k22 ?a23_0 ?l23 ?q23 ?k23
    (case cs => k_is); (case zb_abs => k_is); (case zb_all => k_is); (case zb_bool => k_is); (case zb_int => k_is); (case zb_isinstance => k_is)
    (case zb_len => k_is); (case zb_list => k_is); (case zb_max => k_is); (case zb_min => k_is); (case zb_range => k_is); (case zb_repr => k_is)
    (case zb_sum => k_is); (case zb_tuple => k_is); (case zg_LEAST_STEP => k_is); (case zg_MOST_INDEX => k_is); (case zg_MOST_STEP => k_is); (case zg_PAIR => k_is)
    (case a0_0 => k_is); (case l0 => k_is); (case q0 => k_is); (case k0 => k_is); (case a1_0 => k_is); (case l1 => k_is)
    (case q1 => k_is); (case k1 => k_is); (case a2_0 => k_is); (case l2 => k_is); (case q2 => k_is); (case k2 => k_is)
    (case a3_0 => k_is); (case l3 => k_is); (case q3 => k_is); (case k3 => k_is); (case a4_0 => k_is); (case l4 => k_is)
    (case q4 => k_is); (case k4 => k_is); (case a5_0 => k_is); (case l5 => k_is); (case q5 => k_is); (case k5 => k_is)
    (case a6_0 => k_is); (case l6 => k_is); (case q6 => k_is); (case k6 => k_is); (case a7_0 => k_is); (case l7 => k_is)
    (case q7 => k_is); (case k7 => k_is); (case a8_0 => k_is); (case l8 => k_is); (case q8 => k_is); (case k8 => k_is)
    (case a9_0 => k_is); (case l9 => k_is); (case q9 => k_is); (case k9 => k_is); (case a10_0 => k_is); (case l10 => k_is)
    (case q10 => k_is); (case k10 => k_is); (case a11_0 => k_is); (case l11 => k_is); (case q11 => k_is); (case k11 => k_is)
    (case a12_0 => k_is); (case l12 => k_is); (case q12 => k_is); (case k12 => k_is); (case a13_0 => k_is); (case l13 => k_is)
    (case q13 => k_is); (case k13 => k_is); (case a14_0 => k_is); (case l14 => k_is); (case q14 => k_is); (case k14 => k_is)
    (case a15_0 => k_is); (case l15 => k_is); (case q15 => k_is); (case k15 => k_is); (case a16_0 => k_is); (case l16 => k_is)
    (case q16 => k_is); (case k16 => k_is); (case a17_0 => k_is); (case l17 => k_is); (case q17 => k_is); (case k17 => k_is)
    (case a18_0 => k_is); (case l18 => k_is); (case q18 => k_is); (case k18 => k_is); (case a19_0 => k_is); (case l19 => k_is)
    (case q19 => k_is); (case k19 => k_is); (case a20_0 => k_is); (case l20 => k_is); (case q20 => k_is); (case k20 => k_is)
    (case a21_0 => k_is); (case l21 => k_is); (case q21 => k_is); (case k21 => k_is); (case a22_0 => k_is); (case l22 => k_is)
    (case q22 => k_is); (case k22 => k_is); (case a23_0 => k_is); (case l23 => k_is); (case q23 => k_is); (case k23 => k_is)

