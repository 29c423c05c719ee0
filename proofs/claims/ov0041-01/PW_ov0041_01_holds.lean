import PyProof.Rows.All
import Wide.All
import OpenK.AllK
import Wide.FinOn
import PySem.Challenge.RW_ov0041_01
open PySem PySem.W PyProof.Rows
set_option Elab.async false
set_option maxRecDepth 100000
namespace Mine
set_option maxHeartbeats 0 in
open_top hd for PySem.Challenge.rw_ov0041_01
end Mine

set_option Elab.async false
set_option maxRecDepth 100000
namespace Mine
open PySem PySem.W PyProof.Rows PySem.Calls

noncomputable abbrev Pg : Program := PySem.Challenge.rw_ov0041_01.row.prog

/-- the contract of a def, with a frame: keep stands as it stood, news may turn into news' -/
def Tell (w : World) (f : Addr) (vs : List Value) (news : List (Addr × Obj)) (D U : Nat) (Out : Value → List (Addr × Obj) → Prop) : Prop :=
  ∀ (mean : ExcName → Option Value) (mg mb : Str → Option Value) (dp un : Nat) (gd : Option (List Code)) (cn : Str) (cs : Scope) (a : Addr) (ccd : Value) (cl : List (Str × Addr)) (outer : List Env) (A₀ : Around) (base h₀ : Heap) (L : Addr) (m : Str → Option Value) (keep : List (Addr × Obj)) (s : Shared) (Q E : Value → Shared → Prop),
    Below A₀ base outer h₀ → Fr h₀ L s.heap m → (hd.heap_39 w.params).In h₀ → News h₀ L s.heap (keep ++ news) → TbOff keep news → Top hd.view_39 (looseW hd.view_39 []) mean mg mb h₀ → cs.kind = .function →
    dp + D < recursionLimit → un + U < cLine →
    (∀ r news' h' tk', Fr h₀ L h' m → News h₀ L h' (keep ++ news') → TbOff keep news' → Out r news' → Q r { s with heap := h', toks := tk' }) →
    wpAny (model Pg w) (ktrTop dp un gd cn cs L a ccd cl outer) (call (.ref f) vs) Q E s

theorem tell_use {w : World} {f : Addr} {vs : List Value} {D U : Nat} {Out : Value → List (Addr × Obj) → Prop}
    {mean : ExcName → Option Value} {mg mb : Str → Option Value} {dp un : Nat} {gd : Option (List Code)} {cn : Str} {cs : Scope} {a : Addr} {ccd : Value} {cl : List (Str × Addr)} {outer : List Env} {A₀ : Around} {base h₀ : Heap} {L : Addr} {m : Str → Option Value} {all : List (Addr × Obj)} {s : Shared} {Q E : Value → Shared → Prop}
    (keep news : List (Addr × Obj)) (T : Tell w f vs news D U Out)
    (B : Below A₀ base outer h₀) (F : Fr h₀ L s.heap m) (X : (hd.heap_39 w.params).In h₀) (N : News h₀ L s.heap all) (sub : ∀ p ∈ keep ++ news, p ∈ all) (off : TbOff keep news) (G : Top hd.view_39 (looseW hd.view_39 []) mean mg mb h₀) (hk : cs.kind = .function)
    (hd' : dp + D < recursionLimit) (hu : un + U < cLine)
    (ret : ∀ r news' h' tk', Fr h₀ L h' m → News h₀ L h' (keep ++ news') → TbOff keep news' → Out r news' → Q r { s with heap := h', toks := tk' }) :
    wpAny (model Pg w) (ktrTop dp un gd cn cs L a ccd cl outer) (call (.ref f) vs) Q E s :=
  T _ _ _ _ _ _ _ _ _ _ _ _ _ _ _ _ _ keep _ _ _ B F X (fun p hp => N p (sub p hp)) off G hk hd' hu ret

def Ends (g : Heap) (L' : Addr) (Out : Value → List (Addr × Obj) → Prop) (s₁ : Shared) (v : Value) (s' : Shared) : Prop :=
  ∃ m' news' h' tk', s' = { s₁ with heap := h', toks := tk' } ∧ Fr g L' h' m' ∧ News g L' h' news' ∧ Out v news'

theorem Ends.intro {g : Heap} {L' : Addr} {Out : Value → List (Addr × Obj) → Prop} {s₁ : Shared} {v : Value} {m' : Str → Option Value} {all : List (Addr × Obj)} {h' : Heap} {tk' : Nat} (news' : List (Addr × Obj))
    (F : Fr g L' h' m') (N : News g L' h' all) (sub : ∀ p ∈ news', p ∈ all) (o : Out v news') : Ends g L' Out s₁ v { s₁ with heap := h', toks := tk' } :=
  ⟨m', news', h', tk', rfl, F, fun p hp => N p (sub p hp), o⟩

theorem tell_of {w : World} {f : Addr} {vs : List Value} {news : List (Addr × Obj)} {D U : Nat} {Out : Value → List (Addr × Obj) → Prop}
    {name qual : Str} {params : Arguments} {body : List Stmt} {scope : Scope} {dV kV doc pm cdv ct oc : Value} {an od : Option Addr} {osl : Array (Option Value)} {binds : List (Str × Value)}
    (ho : (hd.heap_39 w.params).lookup f = some ⟨oc, od, .func (fnOf name qual params body scope dV kV doc pm an cdv ct), osl⟩) (hcd : codeIn (hd.heap_39 w.params) cdv qual = true)
    (hbind : ∀ s, BindsTo s (fnOf name qual params body scope dV kV doc pm an cdv ct) ⟨vs, []⟩ binds) (hloc : ∀ y ∈ binds, scope.names.lookup y.1 = some .local)
    (hco : scope.isCoroutine = false) (hgen : scope.isGenerator = false) (hk : scope.kind = .function) (hcell : ∀ x ∈ scope.names, x.2 ≠ .cell)
    (h : ∀ (mean : ExcName → Option Value) (mg mb : Str → Option Value) (dp un : Nat) (gd : Option (List Code)) (cn : Str) (cs : Scope) (L a : Addr) (ccd : Value) (cl : List (Str × Addr)) (outer : List Env) (base g : Heap) (L' : Addr) (s₁ : Shared),
      Below (ktrTop dp un gd cn cs L a ccd cl outer) base (envX cn cs L a ccd cl :: outer) g → Fr g L' s₁.heap (fun y => binds.reverse.lookup y) → (hd.heap_39 w.params).In g → News g L' s₁.heap news → (∀ p ∈ news, p.1 < L') →
      Top hd.view_39 (looseW hd.view_39 []) mean mg mb g → dp + D < recursionLimit → un + U < cLine →
      wpAny (model Pg w) ((ktrTop dp un gd cn cs L a ccd cl outer).deeper (envOf qual scope L' f cdv)) (execs body (envOf qual scope L' f cdv))
        (fun fl s' => Ends g L' Out s₁ (match fl with | .ret v => v | _ => .none) s') (fun _ _ => False) s₁) : Tell w f vs news D U Out := by
  intro mean mg mb dp un gd cn cs a ccd cl outer A₀ base h₀ L m keep s Q E B F X N off T hke hd' hu ret
  have N2 : News h₀ L s.heap news := fun p hp => N p (List.mem_append.mpr (.inr hp))
  have X' : (hd.heap_39 w.params).In s.heap := X.keeps F.keep
  obtain ⟨FG, BG, st, _⟩ := groundX (R := fun _ _ => True) (A := ktrTop dp un gd cn cs L a ccd cl outer) (env := envX cn cs L a ccd cl) (outer := outer) B F N2 rfl rfl hke
  obtain ⟨oL, es, ep, hL, hLd, hLk, hLf⟩ := F.ns
  have nL : L ∉ news.map (·.1) := fun q => by
    obtain ⟨p, hp, e⟩ := List.mem_map.mp q
    exact (N2 p hp).2.1 e
  have hLg := hideAll_get (news.map (·.1)) hL nL
  refine wpAny_call (codeAny_call_def (fd := fnOf name qual params body scope dV kV doc pm an cdv ct) (body := body) (binds := binds) (by show dp < recursionLimit; omega) (X' _ _ ho) rfl (T.nolimit.keeps F.keep) (codeRec_of X' hcd) rfl (hbind s) hcell hloc (fun h₁ hns hk₁ => ?_) hco hgen hk)
  have F1 : Fr (hideAll s.heap (news.map (·.1))) s.heap.objs.size h₁ (fun y => binds.reverse.lookup y) := ⟨hns, fun b o e => hk₁ b o (of_hideAll _ e), Nat.le_of_eq (hideAll_size _ _)⟩
  have N1 : News (hideAll s.heap (news.map (·.1))) s.heap.objs.size h₁ news := fun p hp => ⟨hk₁ _ _ (N2 p hp).1, Nat.ne_of_lt (Heap.lt_size (N2 p hp).1), hideAll_none _ (List.mem_map_of_mem hp)⟩
  refine wpAny_mono (h mean mg mb dp un gd cn cs L a ccd cl outer base _ s.heap.objs.size { s with heap := h₁, toks := s.toks + binds.length } BG F1 (X.keeps st) N1 (fun p hp => Heap.lt_size (N2 p hp).1) (T.keeps st) hd' hu) (fun fl s' hl => ?_) fun _ _ y => y.elim
  obtain ⟨m', news', h', tk', e, F', N', out⟩ := hl
  subst e
  have kg : ∀ p ∈ keep, (hideAll s.heap (news.map (·.1))).get? p.1 = some p.2 := fun p hp => by
    refine hideAll_get _ (N p (List.mem_append.mpr (.inl hp))).1 fun q => ?_
    obtain ⟨q', hq, e⟩ := List.mem_map.mp q
    exact off p hp q' hq e.symm
  refine ret _ news' h' tk' ⟨⟨oL, es, ep, F'.keep L oL hLg, hLd, hLk, hLf⟩, fun b o e => F'.keep b o (st b o e), F.above⟩ (fun p hp => ?_) (fun p hp q hq e => ?_) out
  · rcases List.mem_append.mp hp with hp | hp
    · exact ⟨F'.keep _ _ (kg p hp), (N p (List.mem_append.mpr (.inl hp))).2⟩
    · refine ⟨(N' p hp).1, fun q => ?_, ?_⟩
      · have := (N' p hp).2.2; rw [q, hLg] at this; cases this
      · cases q : h₀.get? p.1 with
        | none => rfl
        | some o => have := (N' p hp).2.2; rw [st _ _ q] at this; cases this
  · have := (N' q hq).2.2; rw [← e, kg p hp] at this; cases this
end Mine

set_option Elab.async false
set_option maxRecDepth 100000
namespace Mine
open PySem PySem.W PyProof.Rows PySem.Calls

/-- a language value -/
inductive Tr where
  | sym (x : Str)
  | chr (x : Str)
  | call (ts : List Tr) (tags : List (Option Str))

theorem Tr.ind {motive : Tr → Prop} (hs : ∀ x, motive (.sym x)) (hc : ∀ x, motive (.chr x)) (hl : ∀ ts tags, (∀ t ∈ ts, motive t) → motive (.call ts tags)) : ∀ t, motive t
  | .sym x => hs x
  | .chr x => hc x
  | .call ts tags => hl ts tags fun t h => Tr.ind hs hc hl t
termination_by t => sizeOf t
decreasing_by
  have := List.sizeOf_lt_of_mem h
  simp only [Tr.call.sizeOf_spec]
  omega

def TagIs : Value → Option Str → Prop
  | v, none => v = .none
  | v, some x => ∃ t, v = .str x t

inductive TagsAre : List Value → List (Option Str) → Prop
  | nil : TagsAre [] []
  | cons {v g vs gs} : TagIs v g → TagsAre vs gs → TagsAre (v :: vs) (g :: gs)
theorem TagsAre.length {vs : List Value} {gs : List (Option Str)} (h : TagsAre vs gs) : vs.length = gs.length := by
  induction h with
  | nil => rfl
  | cons _ _ ih => simp [ih]
theorem TagsAre.append {vs ws : List Value} {gs hs : List (Option Str)} (h : TagsAre vs gs) (k : TagsAre ws hs) : TagsAre (vs ++ ws) (gs ++ hs) := by
  induction h with
  | nil => exact k
  | cons a _ ih => exact .cons a ih
theorem TagsAre.get {vs : List Value} {gs : List (Option Str)} (h : TagsAre vs gs) : ∀ {i : Nat} {v : Value}, vs[i]? = some v → ∃ g, gs[i]? = some g ∧ TagIs v g := by
  induction h with
  | nil => intro i v e; simp at e
  | cons a _ ih =>
    intro i v e
    cases i with
    | zero => exact ⟨_, rfl, by simp at e; exact e ▸ a⟩
    | succ i => exact ih (by simpa using e)

abbrev ent (P : Params) (k : Str) (t : Tok) (v : Value) : DictEntry := ⟨PyData.keyHash P k, .str k t, v⟩
abbrev symD (w : World) (t1 t2 t3 u1 u2 : Tok) (x : Str) : Obj := dictOf [⟨PyData.keyHash w.params (Str.ofString "kind"), .str (Str.ofString "kind") t1, .str (Str.ofString "symbol") u1⟩, ⟨PyData.keyHash w.params (Str.ofString "name"), .str (Str.ofString "name") t2, .str x u2⟩, ⟨PyData.keyHash w.params (Str.ofString "attrs"), .str (Str.ofString "attrs") t3, .none⟩] 3
abbrev vecD (w : World) (t1 t2 t3 t4 t5 u1 : Tok) (l : Addr) (b : Bool) : Obj := dictOf [⟨PyData.keyHash w.params (Str.ofString "kind"), .str (Str.ofString "kind") t1, .str (Str.ofString "character") u1⟩, ⟨PyData.keyHash w.params (Str.ofString "items"), .str (Str.ofString "items") t2, .ref l⟩, ⟨PyData.keyHash w.params (Str.ofString "attrs"), .str (Str.ofString "attrs") t3, .none⟩, ⟨PyData.keyHash w.params (Str.ofString "shared"), .str (Str.ofString "shared") t4, .bool b⟩, ⟨PyData.keyHash w.params (Str.ofString "loose"), .str (Str.ofString "loose") t5, .bool false⟩] 5
abbrev callD (w : World) (t1 t2 t3 t4 t5 u1 : Tok) (li lt : Addr) : Obj := dictOf [⟨PyData.keyHash w.params (Str.ofString "kind"), .str (Str.ofString "kind") t1, .str (Str.ofString "language") u1⟩, ⟨PyData.keyHash w.params (Str.ofString "items"), .str (Str.ofString "items") t2, .ref li⟩, ⟨PyData.keyHash w.params (Str.ofString "tags"), .str (Str.ofString "tags") t3, .ref lt⟩, ⟨PyData.keyHash w.params (Str.ofString "attrs"), .str (Str.ofString "attrs") t4, .none⟩, ⟨PyData.keyHash w.params (Str.ofString "code"), .str (Str.ofString "code") t5, .none⟩] 5

/-- the ledger bears the value v as the tree -/
inductive At (w : World) (news : List (Addr × Obj)) : Value → Tr → Prop
  | sym {a d : Addr} {t1 t2 t3 u1 u2 : Tok} {x : Str} : (a, instObj 67 d) ∈ news → (d, symD w t1 t2 t3 u1 u2 x) ∈ news → At w news (.ref a) (.sym x)
  | chr {a d l : Addr} {t1 t2 t3 t4 t5 u1 u2 : Tok} {b : Bool} {n : Nat} {x : Str} : (a, instObj 46 d) ∈ news → (d, vecD w t1 t2 t3 t4 t5 u1 l b) ∈ news → (l, listOf [Value.str x u2].toArray n) ∈ news → At w news (.ref a) (.chr x)
  | call {a d li lt : Addr} {t1 t2 t3 t4 t5 u1 : Tok} {n1 n2 : Nat} {vs tvs : List Value} {ts : List Tr} {tags : List (Option Str)} : (a, instObj 89 d) ∈ news → (d, callD w t1 t2 t3 t4 t5 u1 li lt) ∈ news →
      (li, listOf vs.toArray n1) ∈ news → (lt, listOf tvs.toArray n2) ∈ news → TagsAre tvs tags → vs.length = ts.length → (∀ (i : Nat) (v : Value) (t : Tr), vs[i]? = some v → ts[i]? = some t → At w news v t) → At w news (.ref a) (.call ts tags)

/-- what a call may do to an object: the flag of a vector -/
inductive Sim (w : World) : Obj → Obj → Prop
  | refl (o : Obj) : Sim w o o
  | flag {t1 t2 t3 t4 t5 u1 : Tok} {l : Addr} {b c : Bool} : Sim w (vecD w t1 t2 t3 t4 t5 u1 l b) (vecD w t1 t2 t3 t4 t5 u1 l c)
theorem Sim.trans {w : World} {o p q : Obj} (h : Sim w o p) (k : Sim w p q) : Sim w o q := by
  cases h with
  | refl => exact k
  | flag =>
    generalize hz : vecD w _ _ _ _ _ _ _ _ = z at k
    cases k with
    | refl => subst hz; exact .flag
    | flag =>
      simp only [Obj.mk.injEq, Data.dict.injEq, Array.mk.injEq, List.toArray, List.cons.injEq, DictEntry.mk.injEq, Value.str.injEq, Value.ref.injEq, Value.bool.injEq, true_and, and_true] at hz
      obtain ⟨⟨a1, a2⟩, ⟨a3, a4⟩, a5, ⟨a6, a7⟩, a8⟩ := hz
      subst a1 a2 a3 a4 a5 a6 a8
      exact .flag

def Step (w : World) (news news' : List (Addr × Obj)) : Prop := ∀ p ∈ news, ∃ o', (p.1, o') ∈ news' ∧ Sim w p.2 o'
def Sub (news news' : List (Addr × Obj)) : Prop := ∀ p ∈ news, p ∈ news'
theorem Sub.step {w : World} {news news' : List (Addr × Obj)} (h : Sub news news') : Step w news news' := fun p hp => ⟨p.2, h p hp, .refl _⟩
theorem Sub.refl (news : List (Addr × Obj)) : Sub news news := fun _ h => h
theorem Sub.trans {a b c : List (Addr × Obj)} (h : Sub a b) (k : Sub b c) : Sub a c := fun p hp => k p (h p hp)
theorem Step.refl {w : World} (news : List (Addr × Obj)) : Step w news news := (Sub.refl news).step
theorem Step.trans {w : World} {a b c : List (Addr × Obj)} (h : Step w a b) (k : Step w b c) : Step w a c := fun p hp => by
  obtain ⟨o, ho, s⟩ := h p hp
  obtain ⟨o', ho', s'⟩ := k _ ho
  exact ⟨o', ho', s.trans s'⟩
theorem Step.sub {w : World} {a b c : List (Addr × Obj)} (h : Step w a b) (k : Sub b c) : Step w a c := h.trans k.step

theorem Step.inst {w : World} {news news' : List (Addr × Obj)} (h : Step w news news') {a d C : Addr} (k : (a, instObj C d) ∈ news) : (a, instObj C d) ∈ news' := by
  obtain ⟨o, ho, s⟩ := h _ k
  dsimp only at ho s
  generalize hz : instObj C d = z at s
  cases s with
  | refl => exact hz ▸ ho
  | flag => simp [instObj] at hz
theorem Step.list {w : World} {news news' : List (Addr × Obj)} (h : Step w news news') {a : Addr} {xs : Array Value} {n : Nat} (k : (a, listOf xs n) ∈ news) : (a, listOf xs n) ∈ news' := by
  obtain ⟨o, ho, s⟩ := h _ k
  dsimp only at ho s
  generalize hz : listOf xs n = z at s
  cases s with
  | refl => exact hz ▸ ho
  | flag => simp at hz
theorem Step.symD {w : World} {news news' : List (Addr × Obj)} (h : Step w news news') {a : Addr} {t1 t2 t3 u1 u2 : Tok} {x : Str} (k : (a, symD w t1 t2 t3 u1 u2 x) ∈ news) : (a, Mine.symD w t1 t2 t3 u1 u2 x) ∈ news' := by
  obtain ⟨o, ho, s⟩ := h _ k
  dsimp only at ho s
  generalize hz : Mine.symD w t1 t2 t3 u1 u2 x = z at s
  cases s with
  | refl => exact hz ▸ ho
  | flag => simp at hz
theorem Step.callD {w : World} {news news' : List (Addr × Obj)} (h : Step w news news') {a li lt : Addr} {t1 t2 t3 t4 t5 u1 : Tok} (k : (a, callD w t1 t2 t3 t4 t5 u1 li lt) ∈ news) : (a, Mine.callD w t1 t2 t3 t4 t5 u1 li lt) ∈ news' := by
  obtain ⟨o, ho, s⟩ := h _ k
  dsimp only at ho s
  generalize hz : Mine.callD w t1 t2 t3 t4 t5 u1 li lt = z at s
  cases s with
  | refl => exact hz ▸ ho
  | flag => simp at hz
theorem Step.vecD {w : World} {news news' : List (Addr × Obj)} (h : Step w news news') {a l : Addr} {t1 t2 t3 t4 t5 u1 : Tok} {b : Bool} (k : (a, vecD w t1 t2 t3 t4 t5 u1 l b) ∈ news) : ∃ c, (a, Mine.vecD w t1 t2 t3 t4 t5 u1 l c) ∈ news' := by
  obtain ⟨o, ho, s⟩ := h _ k
  dsimp only at ho s
  generalize hz : Mine.vecD w t1 t2 t3 t4 t5 u1 l b = z at s
  cases s with
  | refl => exact ⟨b, hz ▸ ho⟩
  | flag =>
    simp only [Obj.mk.injEq, Data.dict.injEq, Array.mk.injEq, List.toArray, List.cons.injEq, DictEntry.mk.injEq, Value.str.injEq, Value.ref.injEq, Value.bool.injEq, true_and, and_true] at hz
    obtain ⟨⟨a1, a2⟩, ⟨a3, a4⟩, a5, ⟨a6, a7⟩, a8⟩ := hz
    subst a1 a2 a3 a4 a5 a6 a8
    exact ⟨_, ho⟩

theorem At.step {w : World} {news news' : List (Addr × Obj)} (h : Step w news news') {v : Value} {t : Tr} (k : At w news v t) : At w news' v t := by
  induction k with
  | sym a b => exact .sym (h.inst a) (h.symD b)
  | chr a b c => obtain ⟨_, b'⟩ := h.vecD b; exact .chr (h.inst a) b' (h.list c)
  | call a b c d e f _ ih => exact .call (h.inst a) (h.callD b) (h.list c) (h.list d) e f ih
theorem At.sub {w : World} {news news' : List (Addr × Obj)} (h : Sub news news') {v : Value} {t : Tr} (k : At w news v t) : At w news' v t := k.step h.step
theorem At.ref {w : World} {news : List (Addr × Obj)} {v : Value} {t : Tr} (k : At w news v t) : ∃ a, v = .ref a := by cases k <;> exact ⟨_, rfl⟩

end Mine

set_option Elab.async false
set_option maxRecDepth 100000
namespace Mine
/-- a place where the walk is to halt -/
def Halt (P : Prop) : Prop := P
theorem Halt.of {P : Prop} (h : Halt P) : P := h
end Mine
open PySem PySem.W PyProof.Rows PySem.Calls
local macro_rules | `(tactic| k_room) => `(tactic| ((try simp only [depth_under_make, depth_under_kw, depth_in1, depth_deeper, depth_caller]); (try dsimp only [ktrTop]); omega))
local macro_rules | `(tactic| k_units) => `(tactic| ((have hcL9 := cLine_is); (try simp only [units_in1, units_deeper, Around.mark_units, units_caller]); (try dsimp only [ktrTop]); omega))
local macro_rules | `(tactic| k_all) => `(tactic| with_reducible assumption)
local macro_rules | `(tactic| k_mem) => `(tactic| first
  | with_reducible assumption
  | with_reducible exact List.mem_cons_self
  | (with_reducible refine List.mem_cons_of_mem _ ?_; k_mem)
  | (with_reducible refine List.mem_append_left _ ?_; k_mem)
  | (with_reducible refine List.mem_append_right _ ?_; k_mem))
local macro_rules | `(tactic| walk_at "call ref") => `(tactic| (first
  | with_reducible show wpAny _ _ (call (Value.ref 100) _) _ _ _
  | with_reducible show wpAny _ _ (call (Value.ref 107) _) _ _ _
  | with_reducible show wpAny _ _ (call (Value.ref 114) _) _ _ _
  | with_reducible show wpAny _ _ (call (Value.ref 121) _) _ _ _
  | with_reducible show wpAny _ _ (call (Value.ref 128) _) _ _ _
  | with_reducible show wpAny _ _ (call (Value.ref 135) _) _ _ _
  | with_reducible show wpAny _ _ (call (Value.ref 142) _) _ _ _
  | with_reducible show wpAny _ _ (call (Value.ref 149) _) _ _ _
  | with_reducible show wpAny _ _ (call (Value.ref 156) _) _ _ _
  | with_reducible show wpAny _ _ (call (Value.ref 163) _) _ _ _
  | with_reducible show wpAny _ _ (call (Value.ref 168) _) _ _ _
  | with_reducible show wpAny _ _ (call (Value.ref 173) _) _ _ _); refine Mine.Halt.of ?_)
local macro_rules | `(tactic| walk_at "pyIter ref") => `(tactic| ((with_reducible show wpAny _ _ (pyIter (Value.ref _)) (fun it s₂ => LoopAtV _ _ _ _ _ _ _ _ _ it s₂) _ _); refine Mine.Halt.of ?_))
local macro_rules | `(tactic| walk_at "compareOp Eq ref ref") => `(tactic| ((with_reducible show wpAny _ _ (compareOp CmpOp.Eq (Value.ref _) (Value.ref _)) _ _ _); refine Mine.Halt.of ?_))
local macro_rules | `(tactic| walk_at "compareOp NotEq ref ref") => `(tactic| ((with_reducible show wpAny _ _ (compareOp CmpOp.NotEq (Value.ref _) (Value.ref _)) _ _ _); refine Mine.Halt.of ?_))
local macro_rules | `(tactic| walk_at "eval ListComp") => `(tactic| ((with_reducible show wpAny _ _ (eval _ _) _ _ _); refine Mine.Halt.of ?_))
local macro_rules | `(tactic| walk_at "CompSrc") => `(tactic| (refine Mine.Halt.of ?_))

set_option Elab.async false
set_option maxRecDepth 100000
namespace Mine
open PySem PySem.W PyProof.Rows PySem.Calls PySem.Spec

mutual
noncomputable def Tr.subst (σ : Str → Option Tr) : Tr → Tr
  | .sym x => (σ x).getD (.sym x)
  | .chr x => .chr x
  | .call ts tags => .call (Tr.substs σ ts) tags
noncomputable def Tr.substs (σ : Str → Option Tr) : List Tr → List Tr
  | [] => []
  | t :: ts => t.subst σ :: Tr.substs σ ts
end
theorem Tr.substs_eq (σ : Str → Option Tr) : ∀ ts, Tr.substs σ ts = ts.map (Tr.subst σ)
  | [] => rfl
  | t :: ts => by rw [Tr.substs, Tr.substs_eq σ ts]; rfl
theorem Tr.subst_call (σ : Str → Option Tr) (ts : List Tr) (tags : List (Option Str)) : Tr.subst σ (.call ts tags) = .call (ts.map (Tr.subst σ)) tags := by rw [Tr.subst, Tr.substs_eq]

inductive Tr.Ok : Nat → Tr → Prop
  | sym {n : Nat} {x : Str} : x.length ≤ 1 → PyData.strOk x = true → x ≠ Str.ofString "u" → Ok n (.sym x)
  | chr {n : Nat} {x : Str} : x.length ≤ 1 → PyData.strOk x = true → Ok n (.chr x)
  | call {n : Nat} {ts : List Tr} {tags : List (Option Str)} : ts.length ≤ 4 → tags.length = ts.length → (∀ x, some x ∈ tags → PyData.strOk x = true) → (∀ t ∈ ts, Ok n t) → Ok (n + 1) (.call ts tags)
theorem Tr.Ok.mono {n m : Nat} {t : Tr} (h : Tr.Ok n t) : n ≤ m → Tr.Ok m t := by
  induction h generalizing m with
  | sym h k l => exact fun _ => .sym h k l
  | chr h k => exact fun _ => .chr h k
  | call a b c _ ih =>
    intro hm
    obtain ⟨m, rfl⟩ : ∃ k, m = k + 1 := ⟨m - 1, by omega⟩
    exact .call a b c fun t ht => ih t ht (by omega)
theorem Tr.Ok.subst {n k : Nat} {σ : Str → Option Tr} (hσ : ∀ x t, σ x = some t → Tr.Ok k t) {t : Tr} (h : Tr.Ok n t) : Tr.Ok (n + k) (t.subst σ) := by
  induction h with
  | @sym m x h k2 k3 =>
    rw [Tr.subst]
    cases e : σ x with
    | none => exact .sym h k2 k3
    | some t => exact (hσ x t e).mono (by omega)
  | chr h k2 => exact .chr h k2
  | @call m ts tags a b c _ ih =>
    rw [Tr.subst_call, show m + 1 + k = m + k + 1 from by omega]
    refine .call (by simpa using a) (by simpa using b) c fun t ht => ?_
    obtain ⟨t', ht', rfl⟩ := List.mem_map.mp ht
    exact ih t' ht'

theorem Tr.Ok.symLen {n : Nat} {x : Str} (h : Tr.Ok n (.sym x)) : x.length ≤ 1 := by cases h; assumption
theorem Tr.Ok.symOk {n : Nat} {x : Str} (h : Tr.Ok n (.sym x)) : PyData.strOk x = true := by cases h; assumption
theorem Tr.Ok.symU {n : Nat} {x : Str} (h : Tr.Ok n (.sym x)) : x ≠ Str.ofString "u" := by cases h; assumption
theorem Tr.Ok.chrLen {n : Nat} {x : Str} (h : Tr.Ok n (.chr x)) : x.length ≤ 1 := by cases h; assumption
theorem Tr.Ok.chrOk {n : Nat} {x : Str} (h : Tr.Ok n (.chr x)) : PyData.strOk x = true := by cases h; assumption

/-- a table of trees -/
def TabOk (w : World) (news : List (Addr × Obj)) (kvs : List (Str × Value)) (σ : Str → Option Tr) : Prop :=
  ∀ x, match valueAt kvs x, σ x with
    | none, none => True
    | some v, some t => At w news v t
    | _, _ => False
theorem TabOk.some {w : World} {news : List (Addr × Obj)} {kvs : List (Str × Value)} {σ : Str → Option Tr} (h : TabOk w news kvs σ) {x : Str} {v : Value} (e : valueAt kvs x = some v) : ∃ t, σ x = some t ∧ At w news v t := by
  have := h x
  rw [e] at this
  cases q : σ x with
  | none => rw [q] at this; exact this.elim
  | some t => rw [q] at this; exact ⟨t, rfl, this⟩
theorem TabOk.none {w : World} {news : List (Addr × Obj)} {kvs : List (Str × Value)} {σ : Str → Option Tr} (h : TabOk w news kvs σ) {x : Str} (e : valueAt kvs x = none) : σ x = none := by
  have := h x
  rw [e] at this
  cases q : σ x with
  | none => rfl
  | some t => rw [q] at this; exact this.elim
theorem TabOk.step {w : World} {news news' : List (Addr × Obj)} {kvs : List (Str × Value)} {σ : Str → Option Tr} (h : TabOk w news kvs σ) (k : Step w news news') : TabOk w news' kvs σ := by
  intro x
  have := h x
  cases e : valueAt kvs x <;> cases q : σ x <;> rw [e, q] at this
  · trivial
  · exact this.elim
  · exact this.elim
  · exact this.step k

theorem rigid_of {w : World} {o o' : Obj} {kvs : List (Str × Value)} (hd : o.IsDictOf (strKind Pg w) kvs) (hv : ∀ x v, valueAt kvs x = some v → ∃ a, v = .ref a) (s : Sim w o o') : o' = o := by
  cases s with
  | refl => rfl
  | flag =>
    obtain ⟨es, ep, _, hdat, _, hp, _⟩ := hd
    simp only [Data.dict.injEq] at hdat
    obtain ⟨rfl, rfl⟩ := hdat
    have q := hp.find (Str.ofString "kind")
    have e : valueAt kvs (Str.ofString "kind") = some (.str (Str.ofString "character") _) := q.symm.trans (by rfl)
    obtain ⟨a, ha⟩ := hv _ _ e
    cases ha

inductive TabOn (b : Nat) (w : World) (news : List (Addr × Obj)) (σ : Str → Option Tr) : Value → Prop
  | mk {d : Addr} {o : Obj} {kvs : List (Str × Value)} : (d, o) ∈ news → (d == sysModules) = false → o.IsDictOf (strKind Pg w) kvs → kvs.length ≤ b → TabOk w news kvs σ → TabOn b w news σ (.ref d)
theorem TabOn.step {bd : Nat} {w : World} {news news' : List (Addr × Obj)} {σ : Str → Option Tr} {v : Value} (h : TabOn bd w news σ v) (k : Step w news news') : TabOn bd w news' σ v := by
  cases h with
  | mk a b c e f =>
    obtain ⟨o', ho, s⟩ := k _ a
    have := rigid_of c (fun x v hv => let ⟨_, _, hA⟩ := f.some hv; hA.ref) s
    subst this
    exact .mk ho b c e (f.step k)
end Mine

set_option Elab.async false
set_option maxRecDepth 100000
namespace Mine
open PySem PySem.W PyProof.Rows PySem.Calls PySem.Spec

/-! plain data: None, texts and lists of them -/
mutual
noncomputable def simple : PyData → Bool
  | .none => true
  | .str x => PyData.strOk x
  | .list xs => simpleAll xs
  | _ => false
noncomputable def simpleAll : List PyData → Bool
  | [] => true
  | x :: xs => simple x && simpleAll xs
end
theorem simpleAll_iff : ∀ xs : List PyData, simpleAll xs = true ↔ ∀ x ∈ xs, simple x = true
  | [] => by simp [simpleAll]
  | x :: xs => by simp [simpleAll, simpleAll_iff xs]
mutual
theorem eqv_simple : ∀ (a b : PyData), simple a = true → simple b = true → (PyData.eqv a b = true ↔ a = b)
  | .none, b, _, hb => by cases b <;> simp_all [PyData.eqv, simple]
  | .str x, b, _, hb => by cases b <;> simp_all [PyData.eqv, simple]
  | .list xs, b, ha, hb => by
    cases b with
    | list ys =>
      simp only [simple] at ha hb
      simp only [PyData.eqv, PyData.list.injEq]
      exact eqvAll_simple xs ys ha hb
    | _ => simp_all [PyData.eqv, simple]
  | .bool _, _, ha, _ => by simp [simple] at ha
  | .int _, _, ha, _ => by simp [simple] at ha
  | .tuple _, _, ha, _ => by simp [simple] at ha
  | .dict _, _, ha, _ => by simp [simple] at ha
theorem eqvAll_simple : ∀ (xs ys : List PyData), simpleAll xs = true → simpleAll ys = true → (PyData.eqvAll xs ys = true ↔ xs = ys)
  | [], [], _, _ => by simp [PyData.eqvAll]
  | [], _ :: _, _, _ => by simp [PyData.eqvAll]
  | _ :: _, [], _, _ => by simp [PyData.eqvAll]
  | x :: xs, y :: ys, ha, hb => by
    simp only [simpleAll, Bool.and_eq_true] at ha hb
    simp only [PyData.eqvAll, Bool.and_eq_true, List.cons.injEq]
    rw [eqv_simple x y ha.1 hb.1, eqvAll_simple xs ys ha.2 hb.2]
end
mutual
theorem simple_lay : ∀ a : PyData, simple a = true → a.canLay0 = true
  | .none, _ => by simp [PyData.canLay0]
  | .str x, h => by simpa [PyData.canLay0, simple] using h
  | .list xs, h => by
    simp only [simple] at h
    simp only [PyData.canLay0]
    exact simple_layAll xs h
  | .bool _, ha => by simp [simple] at ha
  | .int _, ha => by simp [simple] at ha
  | .tuple _, ha => by simp [simple] at ha
  | .dict _, ha => by simp [simple] at ha
theorem simple_layAll : ∀ a : List PyData, simpleAll a = true → PyData.canLayAll0 a = true
  | [], _ => by simp [PyData.canLayAll0]
  | x :: xs, h => by
    simp only [simpleAll, Bool.and_eq_true] at h
    simp only [PyData.canLayAll0, Bool.and_eq_true]
    exact ⟨simple_lay x h.1, simple_layAll xs h.2⟩
end

def tagD : Option Str → PyData
  | none => .none
  | some x => .str x
theorem tagD_inj {a b : Option Str} (h : tagD a = tagD b) : a = b := by
  cases a <;> cases b <;> simp_all [tagD]
theorem tagsD_inj {a b : List (Option Str)} (h : a.map tagD = b.map tagD) : a = b := List.map_inj_right (fun _ _ => tagD_inj) |>.mp h

mutual
noncomputable def shown : Tr → PyData
  | .sym x => .str (Str.ofString "name " ++ x)
  | .chr x => .str (Str.ofString "text " ++ x)
  | .call ts tags => .list (showns ts ++ [.list (tags.map tagD)])
noncomputable def showns : List Tr → List PyData
  | [] => []
  | t :: ts => shown t :: showns ts
end
theorem showns_eq : ∀ ts, showns ts = ts.map shown
  | [] => rfl
  | t :: ts => by rw [showns, showns_eq ts]; rfl
theorem shown_call (ts : List Tr) (tags : List (Option Str)) : shown (.call ts tags) = .list (ts.map shown ++ [.list (tags.map tagD)]) := by rw [shown, showns_eq]

theorem name_text {x y : Str} : Str.ofString "name " ++ x ≠ Str.ofString "text " ++ y := by
  intro h
  have h1 := congrArg (fun s : Str => s.cps[0]?) h
  simp only [Str.cps_append] at h1
  rw [Array.getElem?_append_left (by decide), Array.getElem?_append_left (by decide)] at h1
  revert h1
  decide
theorem app_inj {p x y : Str} (h : p ++ x = p ++ y) : x = y := by
  have h1 := congrArg (fun s : Str => s.cps) h
  simp only [Str.cps_append] at h1
  exact Str.ext' ((Array.append_right_inj p.cps).mp h1)
theorem map_inj_mem {α β : Type} {f : α → β} : ∀ {xs ys : List α}, (∀ x ∈ xs, ∀ y, f x = f y → x = y) → xs.map f = ys.map f → xs = ys
  | [], [], _, _ => rfl
  | [], _ :: _, _, h => by simp at h
  | _ :: _, [], _, h => by simp at h
  | x :: xs, y :: ys, hf, h => by
    simp only [List.map_cons, List.cons.injEq] at h
    rw [hf x (.head _) y h.1, map_inj_mem (fun z hz => hf z (.tail _ hz)) h.2]
theorem shown_inj : ∀ t u : Tr, shown t = shown u → t = u := by
  refine Tr.ind ?_ ?_ ?_
  · intro x u h
    cases u with
    | sym y => rw [shown, shown, PyData.str.injEq] at h; rw [app_inj h]
    | chr y => rw [shown, shown, PyData.str.injEq] at h; exact absurd h name_text
    | call => rw [shown, shown] at h; cases h
  · intro x u h
    cases u with
    | sym y => rw [shown, shown, PyData.str.injEq] at h; exact absurd h.symm name_text
    | chr y => rw [shown, shown, PyData.str.injEq] at h; rw [app_inj h]
    | call => rw [shown, shown] at h; cases h
  · intro ts tags ih u h
    cases u with
    | sym y => rw [shown, shown] at h; cases h
    | chr y => rw [shown, shown] at h; cases h
    | call us gs =>
      rw [shown_call, shown_call, PyData.list.injEq] at h
      have h2 := List.append_inj' h rfl
      have h3 := h2.2
      simp only [List.cons.injEq, PyData.list.injEq, and_true] at h3
      rw [tagsD_inj h3, map_inj_mem (fun t ht u e => ih t ht u e) h2.1]
theorem shown_iff {t u : Tr} : shown t = shown u ↔ t = u := ⟨shown_inj t u, fun h => h ▸ rfl⟩

theorem strOk_append {x y : Str} (hx : PyData.strOk x = true) (hy : PyData.strOk y = true) : PyData.strOk (x ++ y) = true := by
  unfold PyData.strOk at *
  rw [Str.cps_append, Array.all_append, hx, hy]; rfl
theorem tags_simple {tags : List (Option Str)} (h : ∀ x, some x ∈ tags → PyData.strOk x = true) : simple (.list (tags.map tagD)) = true := by
  simp only [simple]
  rw [simpleAll_iff]
  intro d hd
  obtain ⟨g, hg, rfl⟩ := List.mem_map.mp hd
  cases g with
  | none => rfl
  | some x => exact h x hg
theorem shown_simple {n : Nat} {t : Tr} (h : Tr.Ok n t) : simple (shown t) = true := by
  induction h with
  | sym _ h _ => rw [shown]; simp only [simple]; exact strOk_append (by decide +kernel) h
  | chr _ h => rw [shown]; simp only [simple]; exact strOk_append (by decide +kernel) h
  | call _ _ h3 _ ih =>
    rw [shown_call]
    simp only [simple]
    rw [simpleAll_iff]
    intro d hd
    rcases List.mem_append.mp hd with hd | hd
    · obtain ⟨t, ht, rfl⟩ := List.mem_map.mp hd
      exact ih t ht
    · rw [List.mem_singleton.mp hd]
      exact tags_simple h3
theorem depthAll_le {k : Nat} : ∀ {xs : List PyData}, (∀ x ∈ xs, x.depth ≤ k) → PyData.depthAll xs ≤ k
  | [], _ => by simp [PyData.depthAll]
  | x :: xs, h => by
    simp only [PyData.depthAll]
    have := h x (.head _)
    have := depthAll_le (xs := xs) fun y hy => h y (.tail _ hy)
    omega
theorem tags_depth {tags : List (Option Str)} : (PyData.list (tags.map tagD)).depth ≤ 1 := by
  simp only [PyData.depth]
  have : PyData.depthAll (tags.map tagD) ≤ 0 := depthAll_le fun x hx => by
    obtain ⟨g, hg, rfl⟩ := List.mem_map.mp hx
    cases g <;> simp [tagD, PyData.depth]
  omega
theorem shown_depth {n : Nat} {t : Tr} (h : Tr.Ok n t) : (shown t).depth ≤ n + 1 := by
  induction h with
  | sym _ h _ => rw [shown]; simp [PyData.depth]
  | chr _ h => rw [shown]; simp [PyData.depth]
  | @call n ts tags _ _ h3 _ ih =>
    rw [shown_call]
    simp only [PyData.depth]
    have : PyData.depthAll (ts.map shown ++ [PyData.list (tags.map tagD)]) ≤ n + 1 := depthAll_le fun x hx => by
      rcases List.mem_append.mp hx with hd | hd
      · obtain ⟨t, ht, rfl⟩ := List.mem_map.mp hd
        exact ih t ht
      · rw [List.mem_singleton.mp hd]
        have := tags_depth (tags := tags)
        omega
    omega

/-- the ledger bears plain data -/
inductive Rd (news : List (Addr × Obj)) : Value → PyData → Prop
  | none : Rd news .none .none
  | str (x : Str) (t : Tok) : Rd news (.str x t) (.str x)
  | list {a : Addr} {vs : List Value} {n : Nat} {ds : List PyData} : (a, W.listOf vs.toArray n) ∈ news → vs.length = ds.length → (∀ (i : Nat) (v : Value) (d : PyData), vs[i]? = some v → ds[i]? = some d → Rd news v d) → Rd news (.ref a) (.list ds)
theorem Rd.step {w : World} {news news' : List (Addr × Obj)} (h : Step w news news') {v : Value} {d : PyData} (k : Rd news v d) : Rd news' v d := by
  induction k with
  | none => exact .none
  | str x t => exact .str x t
  | list a b _ ih => exact .list (h.list a) b ih
theorem Rd.sub {news news' : List (Addr × Obj)} (h : Sub news news') {v : Value} {d : PyData} (k : Rd news v d) : Rd news' v d := by
  induction k with
  | none => exact .none
  | str x t => exact .str x t
  | list a b _ ih => exact .list (h _ a) b ih
theorem readsAll_of {h : Heap} : ∀ {vs : List Value} {ds : List PyData}, vs.length = ds.length → (∀ (i : Nat) (v : Value) (d : PyData), vs[i]? = some v → ds[i]? = some d → ∃ as, Reads h v d as) → ∃ as, ReadsAll h vs ds as
  | [], [], _, _ => ⟨_, .nil⟩
  | [], _ :: _, e, _ => by simp at e
  | _ :: _, [], e, _ => by simp at e
  | v :: vs, d :: ds, e, k => by
    obtain ⟨as, ha⟩ := k 0 v d rfl rfl
    obtain ⟨bs, hb⟩ := readsAll_of (vs := vs) (ds := ds) (by simpa using e) fun i v d e1 e2 => k (i + 1) v d (by simpa using e1) (by simpa using e2)
    exact ⟨_, .cons ha hb⟩
theorem Rd.reads {h₀ h : Heap} {L : Addr} {news : List (Addr × Obj)} (N : News h₀ L h news) {v : Value} {d : PyData} (k : Rd news v d) : ∃ as, Reads h v d as := by
  induction k with
  | none => exact ⟨_, .none⟩
  | str x t => exact ⟨_, .str x t⟩
  | list a b _ ih =>
    obtain ⟨as, ha⟩ := readsAll_of b ih
    exact ⟨_, .list (N _ a).1 rfl rfl ha⟩
theorem snoc_both {α β : Type} {P : α → β → Prop} {us : List α} {r : α} {ts : List β} {t0 : β} (hl : us.length = ts.length) (h : ∀ (j : Nat) v t, us[j]? = some v → ts[j]? = some t → P v t) (hr : P r t0) :
    ∀ (j : Nat) v t, (us ++ [r])[j]? = some v → (ts ++ [t0])[j]? = some t → P v t := by
  intro j v t e1 e2
  rcases Nat.lt_trichotomy j us.length with hj | hj | hj
  · rw [List.getElem?_append_left hj] at e1; rw [List.getElem?_append_left (by omega)] at e2; exact h j v t e1 e2
  · subst hj
    rw [List.getElem?_append_right (Nat.le_refl _), Nat.sub_self, List.getElem?_cons_zero] at e1
    rw [List.getElem?_append_right (by omega), hl, Nat.sub_self, List.getElem?_cons_zero] at e2
    cases e1; cases e2; exact hr
  · rw [List.getElem?_eq_none (by simp; omega)] at e1; cases e1
theorem rd_one {news : List (Addr × Obj)} {a : Addr} {x : Str} {t : Tok} {n : Nat} (h : (a, W.listOf [Value.str x t].toArray n) ∈ news) : Rd news (.ref a) (.list [.str x]) := by
  refine .list h rfl fun i v d e1 e2 => ?_
  cases i with
  | zero =>
    rw [List.getElem?_cons_zero] at e1 e2
    cases e1; cases e2; exact .str x t
  | succ i => rw [List.getElem?_cons_succ, List.getElem?_nil] at e1; cases e1
theorem rd_tags {news : List (Addr × Obj)} {vs : List Value} {tags : List (Option Str)} (h : TagsAre vs tags) : ∀ (i : Nat) (v : Value) (d : PyData), vs[i]? = some v → (tags.map tagD)[i]? = some d → Rd news v d := by
  intro i v d e1 e2
  obtain ⟨g, hg, ht⟩ := h.get e1
  rw [List.getElem?_map, hg] at e2
  cases e2
  cases g with
  | none => cases ht; exact .none
  | some x => obtain ⟨t, rfl⟩ := ht; exact .str x t

section
variable {w : World} {A : Around} {E : Value → Shared → Prop} {s : Shared} {h₀ : Heap} {L : Addr} {all : List (Addr × Obj)}
theorem eq_rd {a b : Value} {da db : PyData} {Q : Value → Shared → Prop} (N : News h₀ L s.heap all) (ra : Rd all a da) (rb : Rd all b db) (ha : simple da = true) (hb : simple db = true) {k : Nat} (hk : da.depth ≤ k) (hu : A.units + k < cLine)
    (h : ∀ r : Bool, (r = true ↔ da = db) → Q (.bool r) s) : wpAny (model Pg w) A (compareOp .Eq a b) Q E s := by
  obtain ⟨as, xa⟩ := ra.reads N
  obtain ⟨bs, xb⟩ := rb.reads N
  exact SeqAt.compareEq_reads xa xb (simple_lay _ ha) (simple_lay _ hb) (by omega) (h _ (eqv_simple _ _ ha hb))
theorem ne_rd {a b : Value} {da db : PyData} {Q : Value → Shared → Prop} (N : News h₀ L s.heap all) (ra : Rd all a da) (rb : Rd all b db) (ha : simple da = true) (hb : simple db = true) {k : Nat} (hk : da.depth ≤ k) (hu : A.units + k < cLine)
    (h : ∀ r : Bool, (r = true ↔ da ≠ db) → Q (.bool r) s) : wpAny (model Pg w) A (compareOp .NotEq a b) Q E s := by
  obtain ⟨as, xa⟩ := ra.reads N
  obtain ⟨bs, xb⟩ := rb.reads N
  refine SeqAt.compareNe_reads xa xb (simple_lay _ ha) (simple_lay _ hb) (by omega) (h _ ?_)
  have := eqv_simple _ _ ha hb
  rw [Bool.not_eq_true', ← Bool.not_eq_true]
  exact not_congr this
end
end Mine

set_option Elab.async false
set_option maxRecDepth 100000
namespace Mine
open PySem PySem.W PyProof.Rows PySem.Calls PySem.Spec


theorem nil_get {α : Type} {j : Nat} {v : α} (h : ([] : List α)[j]? = some v) : False := by
  rw [List.getElem?_nil] at h; cases h
theorem snoc_rel {α β : Type} {P : α → β → Prop} {us : List α} {r : α} {ts : List β} {t0 : β} (h : ∀ (j : Nat) v t, us[j]? = some v → ts[j]? = some t → P v t) (ht : ts[us.length]? = some t0) (hr : P r t0) :
    ∀ (j : Nat) v t, (us ++ [r])[j]? = some v → ts[j]? = some t → P v t := by
  intro j v t e1 e2
  rcases Nat.lt_trichotomy j us.length with hj | hj | hj
  · rw [List.getElem?_append_left hj] at e1; exact h j v t e1 e2
  · subst hj
    rw [List.getElem?_append_right (Nat.le_refl _), Nat.sub_self, List.getElem?_cons_zero] at e1
    rw [ht] at e2
    cases e1; cases e2; exact hr
  · rw [List.getElem?_eq_none (by simp; omega)] at e1; cases e1
theorem tbEnd_of {h₀ : Heap} {L : Addr} {J : (Str → Option Value) → List (Addr × Obj) → Prop} {own all : List (Addr × Obj)} {s₁ : Shared} {m' : Str → Option Value} {h' : Heap} {tk : Nat} (nx : List (Addr × Obj))
    (F : Fr h₀ L h' m') (N : News h₀ L h' all) (hn : ∀ p ∈ nx, p ∈ all) (ho : ∀ p ∈ own, p ∈ all) (off : TbOff own nx) (j : J m' nx) : TbEnd h₀ L J own s₁ { s₁ with heap := h', toks := tk } :=
  ⟨h', tk, m', all, nx, rfl, F, N, hn, ho, off, j⟩

theorem tboff_nil {news : List (Addr × Obj)} : TbOff [] news := fun _ h => nomatch h
theorem tboff_nil' {news : List (Addr × Obj)} : TbOff news [] := fun _ _ _ h => nomatch h
theorem tboff_cons {a : Addr} {o : Obj} {ks news : List (Addr × Obj)} (h : ∀ q ∈ news, q.1 ≠ a) (t : TbOff ks news) : TbOff ((a, o) :: ks) news := fun p hp q hq e => by
  rcases List.mem_cons.mp hp with rfl | hp
  · exact h q hq e.symm
  · exact t p hp q hq e
theorem tboff_cons' {a : Addr} {o : Obj} {ks news : List (Addr × Obj)} (h : ∀ q ∈ ks, q.1 ≠ a) (t : TbOff ks news) : TbOff ks ((a, o) :: news) := fun p hp q hq e => by
  rcases List.mem_cons.mp hq with rfl | hq
  · exact h p hp e
  · exact t p hp q hq e
theorem tboff_app {as bs news : List (Addr × Obj)} (h : TbOff as news) (t : TbOff bs news) : TbOff (as ++ bs) news := fun p hp => (List.mem_append.mp hp).elim (h p) (t p)
theorem tboff_app' {as bs ks : List (Addr × Obj)} (h : TbOff ks as) (t : TbOff ks bs) : TbOff ks (as ++ bs) := fun p hp q hq => (List.mem_append.mp hq).elim (h p hp q) (t p hp q)
theorem tboff_head {a : Addr} {o : Obj} {ks news : List (Addr × Obj)} (h : TbOff ((a, o) :: ks) news) : ∀ q ∈ news, q.1 ≠ a := fun q hq e => h (a, o) (.head _) q hq e.symm
theorem tboff_tail {a : Addr × Obj} {ks news : List (Addr × Obj)} (h : TbOff (a :: ks) news) : TbOff ks news := fun p hp => h p (.tail _ hp)
theorem tboff_head' {a : Addr} {o : Obj} {ks news : List (Addr × Obj)} (h : TbOff ks ((a, o) :: news)) : ∀ q ∈ ks, q.1 ≠ a := fun q hq e => h q hq (a, o) (.head _) e
theorem tboff_tail' {a : Addr × Obj} {ks news : List (Addr × Obj)} (h : TbOff ks (a :: news)) : TbOff ks news := fun p hp q hq => h p hp q (.tail _ hq)
theorem tboff_left {as bs news : List (Addr × Obj)} (h : TbOff (as ++ bs) news) : TbOff as news := fun p hp => h p (List.mem_append_left _ hp)
theorem tboff_right {as bs news : List (Addr × Obj)} (h : TbOff (as ++ bs) news) : TbOff bs news := fun p hp => h p (List.mem_append_right _ hp)
theorem tboff_symm {as bs : List (Addr × Obj)} (h : TbOff as bs) : TbOff bs as := fun p hp q hq e => h q hq p hp e.symm

section
variable {prog : Program} {w : World} {A : Around} {E : Value → Shared → Prop} {s : Shared} {env : Env} {h₀ : Heap} {x : Str} {body : List Stmt} {Q : Flow → Shared → Prop}

theorem map_eq (stored : List Str) {x : Str} {v : Value} {m₁ m₀ : Str → Option Value} (hm : ∀ z, z ≠ x → stored.contains z = false → m₁ z = m₀ z) :
    (fun z => if z = x then some v else m₁ z) = fun z => if z = x then some v else if stored.contains z then m₁ z else m₀ z := by
  funext z
  by_cases h1 : z = x
  · simp [h1]
  · simp only [if_neg h1]
    cases h3 : stored.contains z with
    | true => simp
    | false => simp only [Bool.false_eq_true, if_false]; exact hm z h1 h3
theorem map_eq' (stored : List Str) {x : Str} {m₁ m₀ : Str → Option Value} (hm : ∀ z, z ≠ x → stored.contains z = false → m₁ z = m₀ z) :
    m₁ = fun z => if z = x then m₁ z else if stored.contains z then m₁ z else m₀ z := by
  funext z
  by_cases h1 : z = x
  · simp [h1]
  · simp only [if_neg h1]
    cases h3 : stored.contains z with
    | true => simp
    | false => simp only [Bool.false_eq_true, if_false]; exact hm z h1 h3

abbrev Kept (x : Str) (stored : List Str) (m₀ : Str → Option Value) (J : List (Addr × Obj) → Prop) (m' : Str → Option Value) (nx : List (Addr × Obj)) : Prop :=
  J nx ∧ ∀ z, z ≠ x → stored.contains z = false → m' z = m₀ z

theorem range_loop {r : Addr} {b₀ : Int} {t₀ u₀ v₀ : Tok} {n : Nat} {m₀ : Str → Option Value} {news : List (Addr × Obj)} (stored : List Str) (J : Nat → List (Addr × Obj) → Prop)
    (hh : A.handled = none) (hr : IsRange s.heap r 0 b₀ 1 t₀ u₀ v₀) (hsmall : Builtin.Range.small 0 b₀ 1 = true) (hn : Builtin.Range.rangeSize 0 b₀ 1 = (n : Int)) (F : Fr h₀ env.locals s.heap m₀) (N : News h₀ env.locals s.heap news) (sub : List (Addr × Obj)) (hsub : ∀ p ∈ sub, p ∈ news) (hj : J 0 sub)
    (turn : ∀ i t (u : Str → Option Value) nx h tk own, i < n → TbOff own nx → J i nx → Fr h₀ env.locals h (fun z => if z = x then some (.int (i : Int) t) else if stored.contains z then u z else m₀ z) → News h₀ env.locals h (nx ++ own) →
      wpAny (model prog w) A (execs body env) (TbPost h₀ env.locals (Kept x stored m₀ (J (i + 1))) own { s with heap := h, toks := tk } Q) E { s with heap := h, toks := tk })
    (done : ∀ (u : Str → Option Value) nx h tk, J n nx → Fr h₀ env.locals h (fun z => if z = x then u z else if stored.contains z then u z else m₀ z) → News h₀ env.locals h nx → Q .next { s with heap := h, toks := tk }) :
    wpAny (model prog w) A (pyIter (.ref r)) (fun it s₂ => LoopAtV prog w A h₀ env x body Q E it s₂) E s := by
  refine tbr_invG (fun i m nx => Kept x stored m₀ (J i) m nx) hh hr hsmall hn F (fun p hp => N p (hsub p hp)) ⟨hj, fun _ _ _ => rfl⟩ ?_ ?_
  · rintro i k t m₁ nx h tk own hk off ⟨hJ, hm⟩ F₁ N₁
    have hi : i < n ∧ k = (i : Int) := by
      have hk' := hk
      unfold rangeKs at hk'
      rw [List.getElem?_map] at hk'
      cases q : (List.range n)[i]? with
      | none => rw [q] at hk'; cases hk'
      | some j =>
        rw [q] at hk'
        obtain ⟨hlt, hj⟩ := List.getElem?_eq_some_iff.mp q
        simp only [List.length_range] at hlt
        simp only [List.getElem_range] at hj
        subst hj
        simp only [Option.map_some, Option.some.injEq] at hk'
        exact ⟨hlt, by omega⟩
    obtain ⟨hi, rfl⟩ := hi
    rw [map_eq stored hm] at F₁
    exact turn i t m₁ nx h tk own hi off hJ F₁ N₁
  · rintro m₁ nx h tk ⟨hJ, hm⟩ F₁ N₁
    rw [map_eq' stored hm] at F₁
    exact done m₁ nx h tk hJ F₁ N₁
end
end Mine

set_option Elab.async false
set_option maxRecDepth 100000
set_option maxHeartbeats 4000000
namespace Mine
open PySem PySem.W PyProof.Rows PySem.Calls
example : (fun (_ : OpenLaw) (_ : Params → Frag) => True) PySem.Challenge.rw_ov0041_01 hd.heap_39 := by w_top off; k_fill; trivial

def off (d : Addr) (news : List (Addr × Obj)) : List (Addr × Obj) := news.filter fun p => p.1 != d
theorem off_ne {d : Addr} {news : List (Addr × Obj)} : ∀ p ∈ off d news, p.1 ≠ d := fun p hp => by simpa using (List.mem_filter.mp hp).2
theorem off_sub {d : Addr} {news : List (Addr × Obj)} : ∀ p ∈ off d news, p ∈ news := fun p hp => (List.mem_filter.mp hp).1
theorem off_mem {d : Addr} {news : List (Addr × Obj)} {p : Addr × Obj} (hp : p ∈ news) (hne : p.1 ≠ d) : p ∈ off d news := List.mem_filter.mpr ⟨hp, by simpa using hne⟩
theorem news_pick {h₀ h : Heap} {L d : Addr} {o : Obj} {news : List (Addr × Obj)} (N : News h₀ L h news) (hm : (d, o) ∈ news) : News h₀ L h ((d, o) :: off d news) := fun p hp => by
  rcases List.mem_cons.mp hp with rfl | hp
  · exact N _ hm
  · exact N _ (off_sub p hp)
theorem news_one {h₀ h : Heap} {L d : Addr} {o o' : Obj} {news : List (Addr × Obj)} (N : News h₀ L h news) (hm : (d, o) ∈ news) (hm' : (d, o') ∈ news) : o = o' := Option.some.inj ((N _ hm).1.symm.trans (N _ hm').1)
theorem step_pick {h₀ h : Heap} {L d : Addr} {w : World} {o o' : Obj} {news : List (Addr × Obj)} (N : News h₀ L h news) (hm : (d, o) ∈ news) (s : Sim w o o') : Step w news ((d, o') :: off d news) := fun p hp => by
  by_cases e : p.1 = d
  · obtain ⟨a, q⟩ := p
    dsimp only at e
    subst e
    have := news_one N hm hp
    subst this
    exact ⟨o', .head _, s⟩
  · exact ⟨p.2, .tail _ (off_mem hp e), .refl _⟩

theorem share_tell {w : World} {news : List (Addr × Obj)} {v : Value} {t : Tr} (R : At w news v t) : Tell w 100 [v] news 2 20 (fun r news' => r = v ∧ Step w news news') := by
  refine tell_of (binds := [(Str.ofString "v", v)]) (by k_is) (by k_is) (fun s => BindsTo.of_eq rfl) (locs rfl) rfl rfl rfl (by decide) ?_
  intro mean mg mb dp un gd cn cs L a ccd cl outer base g L' s₁ B F X N lt T hd' hu
  cases R with
  | sym h1 h2 =>
    k_steps
    dsimp only
    exact Ends.intro _ F N (fun _ h => h) ⟨rfl, Step.refl _⟩
  | chr h1 h2 h3 =>
    rename_i a d l t1 t2 t3 t4 t5 u1 u2 b n x
    have hne : a ≠ d := fun e => by
      have := news_one N h1 (e ▸ h2)
      cases this
    have N2 := news_pick N h2
    have hoff := off_ne (d := d) (news := news)
    have h1' := off_mem h1 hne
    have hst := step_pick N h2 (Sim.flag (b := b) (c := true))
    clear N
    k_steps
    dsimp only
    exact Ends.intro _ (by assumption) (by assumption) (fun _ h => h) ⟨rfl, hst⟩
  | call h1 h2 h3 h4 h5 h6 h7 =>
    k_steps
    dsimp only
    exact Ends.intro _ F N (fun _ h => h) ⟨rfl, Step.refl _⟩
end Mine

set_option Elab.async false
set_option maxRecDepth 100000
namespace Mine
open PySem PySem.W PyProof.Rows PySem.Calls PySem.Spec
section
variable {w : World} {A : Around} {E : Value → Shared → Prop} {s : Shared} {h₀ : Heap} {L : Addr} {all : List (Addr × Obj)}

theorem len_led {l : Addr} {vs : List Value} {n : Nat} {Q : Value → Shared → Prop} (N : News h₀ L s.heap all) (hm : (l, W.listOf vs.toArray n) ∈ all) (hf : vs.length < 1000000)
    (h : Q (.int vs.length (s.toks + 1)) { s with toks := s.toks + 1 + 1 }) : wpAny (model Pg w) A (call (.builtin "len") [.ref l]) Q E s := by
  have hl : s.heap.IsList l vs.toArray := ⟨_, (N _ hm).1, rfl, _, rfl⟩
  have e : (List.toArray vs).size = vs.length := List.size_toArray ..
  exact call_len_list hl (by rw [e]; omega) (by rw [e]; exact h)
theorem item_led {value slice : PySem.Expr} {l : Addr} {vs : List Value} {n i : Nat} {v : Value} {t : Tok} {Q : Value → Shared → Prop} (N : News h₀ L s.heap all) (hm : (l, W.listOf vs.toArray n) ∈ all) (hx : vs[i]? = some v) (hf : i < 1000000)
    (h : Q v s)
    (hs : subscripted slice false (.ref l) (.int (i : Int) t) = operate [.ref l, .int (i : Int) t] (getItem (.ref l) (.int (i : Int) t)) := by with_unfolding_all rfl) :
    wpAny (model Pg w) A (subscriptTail value slice (.ref l) (.int (i : Int) t)) Q E s := by
  have hl : s.heap.IsList l vs.toArray := ⟨_, (N _ hm).1, rfl, _, rfl⟩
  exact tail_any hl.typeIs slot_list_getitem.lookup (wpAny_getItem_list hl (by omega) (by omega) (by simpa using hx) h) hs
theorem tab_in {d : Addr} {o : Obj} {kvs : List (Str × Value)} {x : Str} {t : Tok} {Q : Value → Shared → Prop} (N : News h₀ L s.heap all) (hp : (d, o) ∈ all) (hd : o.IsDictOf (strKind Pg w) kvs) (lo : (d == sysModules) = false)
    (h1 : ∀ v, valueAt kvs x = some v → Q (.bool true) { s with toks := s.toks + 1 }) (h2 : valueAt kvs x = none → Q (.bool false) { s with toks := s.toks + 1 }) :
    wpAny (model Pg w) A (compareOp .In (.str x t) (.ref d)) Q E s := by
  cases e : valueAt kvs x with
  | none => exact kda_in N hp hd lo (strKind_is _ _ _ _) false (by rw [e]; rfl) (h2 e)
  | some v => exact kda_in N hp hd lo (strKind_is _ _ _ _) true (by rw [e]; rfl) (h1 v e)
theorem tab_notin {d : Addr} {o : Obj} {kvs : List (Str × Value)} {x : Str} {t : Tok} {Q : Value → Shared → Prop} (N : News h₀ L s.heap all) (hp : (d, o) ∈ all) (hd : o.IsDictOf (strKind Pg w) kvs) (lo : (d == sysModules) = false)
    (h1 : ∀ v, valueAt kvs x = some v → Q (.bool false) { s with toks := s.toks + 1 }) (h2 : valueAt kvs x = none → Q (.bool true) { s with toks := s.toks + 1 }) :
    wpAny (model Pg w) A (compareOp .NotIn (.str x t) (.ref d)) Q E s := by
  cases e : valueAt kvs x with
  | none => exact kdg_notin N hp hd lo (strKind_is _ _ _ _) false (by rw [e]; rfl) (h2 e)
  | some v => exact kdg_notin N hp hd lo (strKind_is _ _ _ _) true (by rw [e]; rfl) (h1 v e)
theorem tab_get {value slice : PySem.Expr} {d : Addr} {o : Obj} {kvs : List (Str × Value)} {x : Str} {t : Tok} {v : Value} {Q : Value → Shared → Prop} (N : News h₀ L s.heap all) (hp : (d, o) ∈ all) (hd : o.IsDictOf (strKind Pg w) kvs) (hl : valueAt kvs x = some v)
    (h : Q v { s with toks := s.toks + 1 })
    (hs : subscripted slice false (.ref d) (.str x t) = operate [.ref d, .str x t] (getItem (.ref d) (.str x t)) := by with_unfolding_all rfl) (hg : ∀ r, letTemporaryGo value (.ref d) r = pure () := by intro _; with_unfolding_all rfl) :
    wpAny (model Pg w) A (subscriptTail value slice (.ref d) (.str x t)) Q E s := kda_item N hp hd (strKind_is _ _ _ _) hl h hs hg

theorem append_led {m : Str → Option Value} {l : Addr} {vs : List Value} {n : Nat} {x : Value} {all' : List (Addr × Obj)} {Q : Value → Shared → Prop} (F : Fr h₀ L s.heap m) (N : News h₀ L s.heap all) (U : Upd l (W.listOf vs.toArray n) (W.listOf (vs ++ [x]).toArray (n + 1)) all all') (hf : vs.length < 1000000)
    (h : ∀ h', Fr h₀ L h' m → News h₀ L h' all' → Q .none { s with heap := h' }) : wpAny (model Pg w) A (call (.builtin "list.append") [.ref l, x]) Q E s := by
  rw [← List.push_toArray] at U
  exact append_K F N U h (by rw [sizeLine_eq, List.size_toArray]; omega)
theorem ne_dots {x : Str} (h : x.length ≤ 1) : (x == Str.ofString "...") = false := by
  rw [beq_eq_false_iff_ne]
  intro e
  rw [e] at h
  revert h
  decide
theorem eq_short {x : Str} {t u : Tok} {Q : Value → Shared → Prop} (hx : x.length ≤ 1) (h : Q (.bool false) s) : wpAny (model Pg w) A (compareOp .Eq (.str x t) (.str (Str.ofString "...") u)) Q E s :=
  eq_str (by rw [ne_dots hx]; exact h)
theorem ne_short {x : Str} {t u : Tok} {Q : Value → Shared → Prop} (hx : x.length ≤ 1) (h : Q (.bool true) s) : wpAny (model Pg w) A (compareOp .NotEq (.str x t) (.str (Str.ofString "...") u)) Q E s :=
  ne_str (by rw [bne, ne_dots hx]; exact h)
end
end Mine
open PySem PySem.W PyProof.Rows PySem.Calls
local macro_rules | `(tactic| walk_at "call builtin:len") => `(tactic| (k_here; (with_reducible show wpAny _ _ (call (Value.builtin "len") [Value.ref _]) _ _ _); refine' Mine.len_led ?N ?m ?f ?_; (case N => k_asm); (case m => k_mem); (case f => omega)))
local macro_rules | `(tactic| walk_at "subscriptTail") => `(tactic| (k_here; (with_reducible show wpAny _ _ (subscriptTail _ _ (Value.ref _) (Value.int (Int.ofNat _) _)) _ _ _); refine' Mine.item_led ?N ?m ?x ?f ?_; (case N => k_asm); (case m => k_mem); (case x => assumption); (case f => omega)))
local macro_rules | `(tactic| walk_at "subscriptTail") => `(tactic| (k_here; (with_reducible show wpAny _ _ (subscriptTail _ _ (Value.ref _) (Value.int (Nat.cast _) _)) _ _ _); refine' Mine.item_led ?N ?m ?x ?f ?_; (case N => k_asm); (case m => k_mem); (case x => assumption); (case f => omega)))
local macro_rules | `(tactic| walk_at "subscriptTail") => `(tactic| (k_here; (with_reducible show wpAny _ _ (subscriptTail _ _ (Value.ref _) (Value.str _ _)) _ _ _); refine' Mine.tab_get ?N ?m ?d ?x ?_; (case N => k_asm); (case d => assumption); (case m => k_mem); (case x => assumption)))
local macro_rules | `(tactic| walk_at "compareOp In str ref") => `(tactic| (k_here; refine' Mine.tab_in ?N ?m ?d ?l ?_ ?_; (case N => k_asm); (case d => assumption); (case m => k_mem); (case l => assumption); (all_goals intros)))
local macro_rules | `(tactic| walk_at "compareOp NotIn str ref") => `(tactic| (k_here; refine' Mine.tab_notin ?N ?m ?d ?l ?_ ?_; (case N => k_asm); (case d => assumption); (case m => k_mem); (case l => assumption); (all_goals intros)))
local macro_rules | `(tactic| walk_at "compareOp Eq str str") => `(tactic| (k_here; refine Mine.eq_short (by assumption) ?_))
local macro_rules | `(tactic| walk_at "compareOp NotEq str str") => `(tactic| (k_here; refine Mine.ne_short (by assumption) ?_))
local macro_rules | `(tactic| walk_at "call type:range") => `(tactic| (k_here; refine' range1_rows ?F ?N ?_; (case F => k_asm); (case N => k_asm); intro h' tk' t' u' v' R' F' N' K'; (try dsimp only at R' F' N' ⊢)))
local macro_rules | `(tactic| walk_at "call builtin:list.append") => `(tactic| (k_here; (with_reducible show wpAny _ _ (call (Value.builtin _) [Value.ref _, _]) _ _ _); refine' Mine.append_led ?F ?N ?U ?f ?_; (case F => k_asm); (case N => k_asm); (case U => k_upd); (case f => ((try simp only [List.length_append, List.length_cons, List.length_nil]); omega)); intro h' F' N'; (try k_sweep)))
namespace Mine
theorem item0_led {w : World} {A : Around} {E : Value → Shared → Prop} {s : Shared} {h₀ : Heap} {L : Addr} {all : List (Addr × Obj)} {value slice : PySem.Expr} {l : Addr} {vs : List Value} {n : Nat} {v : Value} {t : Tok} {Q : Value → Shared → Prop} (N : News h₀ L s.heap all) (hm : (l, W.listOf (v :: vs).toArray n) ∈ all)
    (h : Q v s)
    (hs : subscripted slice false (.ref l) (.int 0 t) = operate [.ref l, .int 0 t] (getItem (.ref l) (.int 0 t)) := by with_unfolding_all rfl) :
    wpAny (model Pg w) A (subscriptTail value slice (.ref l) (.int 0 t)) Q E s := by
  have hl : s.heap.IsList l (v :: vs).toArray := ⟨_, (N _ hm).1, rfl, _, rfl⟩
  exact tail_any hl.typeIs slot_list_getitem.lookup (wpAny_getItem_list hl (by decide) (by decide) (by simp) h) hs
end Mine
local macro_rules | `(tactic| walk_at "subscriptTail") => `(tactic| (k_here; (with_reducible show wpAny _ _ (subscriptTail _ _ (Value.ref _) (Value.int 0 _)) _ _ _); refine' Mine.item0_led ?N ?m ?_; (case N => k_asm); (case m => k_mem)))
namespace Mine
section
variable {w : World} {A : Around} {E : Value → Shared → Prop} {s : Shared} {h₀ : Heap} {L : Addr} {all : List (Addr × Obj)} {m : Str → Option Value}
theorem copy_led {l : Addr} {vs : List Value} {n : Nat} {Q : Value → Shared → Prop} (F : Fr h₀ L s.heap m) (N : News h₀ L s.heap all) (hm : (l, W.listOf vs.toArray n) ∈ all) (hf : vs.length < 1000000)
    (h : ∀ D c h', Fr h₀ L h' m → News h₀ L h' ((D, W.listOf vs.toArray c) :: all) → (∀ q ∈ all, q.1 < D) → Q (.ref D) { s with heap := h' }) :
    wpAny (model Pg w) A (call (.type "list") [.ref l]) Q E s :=
  list_copyK F N ⟨_, (N _ hm).1, rfl, _, rfl⟩ h (by rw [sizeLine_eq, List.size_toArray]; omega)
theorem add_led {l b : Addr} {vs us : List Value} {n k : Nat} {Q : Value → Shared → Prop} (F : Fr h₀ L s.heap m) (N : News h₀ L s.heap all) (hm : (l, W.listOf vs.toArray n) ∈ all) (hm' : (b, W.listOf us.toArray k) ∈ all) (hf : vs.length < 1000000) (hf' : us.length < 1000000)
    (h : ∀ D h', Fr h₀ L h' m → News h₀ L h' ((D, W.listOf (vs ++ us).toArray 0) :: all) → (∀ q ∈ all, q.1 < D) → Q (.ref D) { s with heap := h' }) :
    wpAny (model Pg w) A (binaryOp .Add (.ref l) (.ref b)) Q E s :=
  add_arrays F N ⟨_, (N _ hm).1, rfl, _, rfl⟩ ⟨_, (N _ hm').1, rfl, _, rfl⟩ (fun h' F' N' => h _ h' F' N' fun q hq => Heap.lt_size (N q hq).1) (by rw [sizeLine_eq, List.size_toArray, List.size_toArray]; omega)
end
end Mine
local macro_rules | `(tactic| walk_at "call type:list") => `(tactic| (k_here; (with_reducible show wpAny _ _ (call (Value.type _) [Value.ref _]) _ _ _); refine' Mine.copy_led ?F ?N ?m ?f ?_; (case F => k_asm); (case N => k_asm); (case m => k_mem); (case f => ((try simp only [List.length_append, List.length_cons, List.length_nil]); omega)); intro D' c' h' F' N' l1; (try k_lt l1)))
local macro_rules | `(tactic| walk_at "binaryOp Add ref ref") => `(tactic| (k_here; (with_reducible show wpAny _ _ (binaryOp _ (Value.ref _) (Value.ref _)) _ _ _); refine' Mine.add_led ?F ?N ?m ?m' ?f ?g ?_; (case F => k_asm); (case N => k_asm); (case m => k_mem); (case m' => k_mem); (case f => ((try simp only [List.length_append, List.length_cons, List.length_nil]); omega)); (case g => ((try simp only [List.length_append, List.length_cons, List.length_nil]); omega)); intro D' h' F' N' l1; (try k_lt l1)))

set_option Elab.async false
set_option maxRecDepth 100000
namespace Mine
open PySem PySem.W PyProof.Rows PySem.Calls PySem.Spec
section
variable {prog : Program} {w : World} {A : Around} {h₀ : Heap} {L : Addr} {m : Str → Option Value} {env : Env} {elt : PySem.Expr} {x : Str} {scope : Scope} {cl : List (Str × Addr)} {s : Shared} {S : List (Addr × Obj) → Prop} {P : Nat → Value → Prop} {Fin : List Value → List (Addr × Obj) → Prop}
theorem comp_rest {n : Nat} (Inv : Nat → List Value → List (Addr × Obj) → Prop)
    (turn : ∀ i v ys nx I oI C oC D m₂ h tk (E' : Value → Shared → Prop), i < n → P i v → Inv i ys nx → LCg.NsObj oC m₂ → m₂ x = some v → Fr h₀ L h m → News h₀ L h ((I, oI) :: (C, oC) :: (D, LCg.lst ys) :: nx) → LCg.Off3 I C D nx → ((@Ne Nat I C) ∧ (@Ne Nat I D) ∧ (@Ne Nat C D)) →
      wpAny (model prog w) A (eval elt (compEnvC scope cl C env)) (LCg.CompEnd h₀ L m { s with heap := h, toks := tk } I oI C oC D (LCg.lst ys) S (fun y nx' => Inv (i + 1) (ys ++ [y]) nx')) E' { s with heap := h, toks := tk })
    (fin : ∀ ys nx, Inv n ys nx → Fin ys nx) : ∀ k i ys nx, k + i = n → Inv i ys nx → LCg.CompRest prog w A h₀ L m env elt x scope cl s S P Fin k i ys nx := by
  intro k
  induction k with
  | zero =>
    intro i ys nx e inv
    have : i = n := by omega
    subst this
    exact .zero (fin _ _ inv)
  | succ k ih =>
    intro i ys nx e inv
    refine .succ fun v I oI C oC D m₂ h tk E' hP hC hx F N off ne => ?_
    refine wpAny_mono (turn i v ys nx I oI C oC D m₂ h tk E' (by omega) hP inv hC hx F N off ne) (fun y s₂ ⟨h', tk', news', e1, e2, e3, e4, e5, e6⟩ => ⟨h', tk', news', e1, e2, e3, e4, e5, ih _ _ _ (by omega) e6⟩) fun _ _ e => e
end
theorem off3_of {I C D : Addr} {o1 o2 o3 : Obj} {nx : List (Addr × Obj)} (h : TbOff [(I, o1), (C, o2), (D, o3)] nx) : LCg.Off3 I C D nx :=
  LCg.Off3.of fun p hp => ⟨tboff_head h p hp, tboff_head (tboff_tail h) p hp, tboff_head (tboff_tail (tboff_tail h)) p hp⟩
theorem of_off3 {I C D : Addr} {o1 o2 o3 : Obj} {nx : List (Addr × Obj)} (h : LCg.Off3 I C D nx) : TbOff [(I, o1), (C, o2), (D, o3)] nx :=
  tboff_cons (fun p hp => (h.mem p hp).1) (tboff_cons (fun p hp => (h.mem p hp).2.1) (tboff_cons (fun p hp => (h.mem p hp).2.2) tboff_nil))
theorem off1_ne {D : Addr} : ∀ {l : List (Addr × Obj)}, LCg.Off1 D l → ∀ p ∈ l, p.1 ≠ D
  | [], _, _, h => nomatch h
  | _ :: _, x, p, h => by
    rcases List.mem_cons.mp h with rfl | h
    · exact x.1
    · exact off1_ne x.2 p h
end Mine

set_option Elab.async false
set_option maxRecDepth 100000
namespace Mine
open PySem PySem.W PyProof.Rows PySem.Calls

def EndsK (g : Heap) (L' : Addr) (keep : List (Addr × Obj)) (Out : Value → List (Addr × Obj) → Prop) (s₁ : Shared) (v : Value) (s' : Shared) : Prop :=
  ∃ m' news' h' tk', s' = { s₁ with heap := h', toks := tk' } ∧ Fr g L' h' m' ∧ News g L' h' (keep ++ news') ∧ TbOff keep news' ∧ Out v news'
theorem EndsK.intro {g : Heap} {L' : Addr} {keep : List (Addr × Obj)} {Out : Value → List (Addr × Obj) → Prop} {s₁ : Shared} {v : Value} {m' : Str → Option Value} {all : List (Addr × Obj)} {h' : Heap} {tk' : Nat} (news' : List (Addr × Obj))
    (F : Fr g L' h' m') (N : News g L' h' all) (sub : ∀ p ∈ keep ++ news', p ∈ all) (off : TbOff keep news') (o : Out v news') : EndsK g L' keep Out s₁ v { s₁ with heap := h', toks := tk' } :=
  ⟨m', news', h', tk', rfl, F, fun p hp => N p (sub p hp), off, o⟩

theorem tell_ofC {w : World} {f : Addr} {vs : List Value} {news : List (Addr × Obj)} {D U : Nat} {Out : Value → List (Addr × Obj) → Prop}
    {name qual : Str} {params : Arguments} {body : List Stmt} {scope : Scope} {dV kV doc pm cdv ct oc : Value} {an od : Option Addr} {osl : Array (Option Value)} {binds : List (Str × Value)}
    (ho : (hd.heap_39 w.params).lookup f = some ⟨oc, od, .func (fnOf name qual params body scope dV kV doc pm an cdv ct), osl⟩) (hcd : codeIn (hd.heap_39 w.params) cdv qual = true)
    (hbind : ∀ s, BindsTo s (fnOf name qual params body scope dV kV doc pm an cdv ct) ⟨vs, []⟩ binds)
    (hkind : (binds.all fun y => scope.names.lookup y.1 == some .local || scope.names.lookup y.1 == some .cell) = true)
    (hnd : ((cellsFrom 0 scope.names []).map (·.1)).Nodup)
    (hco : scope.isCoroutine = false) (hgen : scope.isGenerator = false) (hk : scope.kind = .function)
    (h : ∀ (mean : ExcName → Option Value) (mg mb : Str → Option Value) (dp un : Nat) (gd : Option (List Code)) (cn : Str) (cs : Scope) (L a : Addr) (ccd : Value) (cl : List (Str × Addr)) (outer : List Env) (base g : Heap) (L' : Addr) (s₁ : Shared) (keep cells : List (Addr × Obj)),
      Below (ktrTop dp un gd cn cs L a ccd cl outer) base (envX cn cs L a ccd cl :: outer) g → Fr g L' s₁.heap (bindL (envOfC qual scope L' f cdv).kindOf binds fun _ => none) → (hd.heap_39 w.params).In g → News g L' s₁.heap (cells ++ (keep ++ news)) →
      CellsAre (bindC (envOfC qual scope L' f cdv).kindOf binds fun _ => none) (cellsFrom (L' + 1) scope.names []) cells → TbOff keep news → (∀ p ∈ keep ++ news, p.1 < L') →
      Top hd.view_39 (looseW hd.view_39 []) mean mg mb g → dp + D < recursionLimit → un + U < cLine →
      wpAny (model Pg w) ((ktrTop dp un gd cn cs L a ccd cl outer).deeper (envOfC qual scope L' f cdv)) (execs body (envOfC qual scope L' f cdv))
        (fun fl s' => EndsK g L' keep Out s₁ (match fl with | .ret v => v | _ => .none) s') (fun _ _ => False) s₁) : Tell w f vs news D U Out := by
  intro mean mg mb dp un gd cn cs a ccd cl outer A₀ base h₀ L m keep s Q E B F X N off T hke hd' hu ret
  have X' : (hd.heap_39 w.params).In s.heap := X.keeps F.keep
  refine wpAny_call (callX_cells (A := ktrTop dp un gd cn cs L a ccd cl outer) (env := envX cn cs L a ccd cl) (outer := outer) (news := keep ++ news) B F N T.nolimit rfl rfl hke (X' _ _ ho) rfl (codeRec_of X' hcd) (by show dp < recursionLimit; omega) (hbind s) (kindsX hkind) hnd (fun g L' h₁ tk cells FG F' N' Y B' st lt => ?_) hco hgen hk)
  refine wpAny_mono (h mean mg mb dp un gd cn cs L a ccd cl outer base g L' { s with heap := h₁, toks := tk } keep cells B' F' (X.keeps st) N' Y off lt (T.keeps st) hd' hu) (fun fl s' hl => ?_) fun _ _ y => y.elim
  obtain ⟨m', news', h', tk', e, F'', N'', off'', out⟩ := hl
  subst e
  exact ⟨L', m', keep ++ news', F'', N'', fun kF kN => ret _ news' h' tk' kF kN off'' out⟩
end Mine

set_option Elab.async false
set_option maxRecDepth 100000
namespace Mine
open PySem PySem.W PyProof.Rows PySem.Calls

/-- the joined table: what the first gives with the second's values in it, and what the second alone gives -/
noncomputable def joined (σ τ : Str → Option Tr) : Str → Option Tr := fun x => match σ x with
  | some u => some (u.subst τ)
  | none => τ x
theorem map_congr_mem {α β : Type} {f g : α → β} : ∀ {l : List α}, (∀ x ∈ l, f x = g x) → l.map f = l.map g
  | [], _ => rfl
  | x :: r, h => by rw [List.map_cons, List.map_cons, h x (.head _), map_congr_mem fun y hy => h y (.tail _ hy)]
theorem subst_subst (σ τ : Str → Option Tr) : ∀ t : Tr, (t.subst σ).subst τ = t.subst (joined σ τ) := by
  refine Tr.ind ?_ ?_ ?_
  · intro x
    rw [Tr.subst, Tr.subst]
    unfold joined
    cases h : σ x with
    | none => rw [Option.getD_none, Tr.subst]
    | some u => rfl
  · intro x; rw [Tr.subst, Tr.subst, Tr.subst]
  · intro ts tags ih
    rw [Tr.subst_call, Tr.subst_call, Tr.subst_call, List.map_map]
    congr 1
    exact map_congr_mem fun t ht => ih t ht
theorem subst_same {σ : Str → Option Tr} (h : ∀ x, x ≠ Str.ofString "u" → (σ x).getD (.sym x) = .sym x) {n : Nat} {t : Tr} (ok : Tr.Ok n t) : t.subst σ = t := by
  induction ok with
  | sym _ _ hu => rw [Tr.subst]; exact h _ hu
  | chr => rw [Tr.subst]
  | @call n ts tags _ _ _ _ ih =>
    rw [Tr.subst_call]
    congr 1
    exact (map_congr_mem fun t ht => ih t ht).trans (List.map_id' ts)
theorem joined_ok {σ τ : Str → Option Tr} {a b : Nat} (hσ : ∀ x t, σ x = some t → Tr.Ok a t) (hτ : ∀ x t, τ x = some t → Tr.Ok b t) : ∀ x t, joined σ τ x = some t → Tr.Ok (a + b) t := by
  intro x t h
  unfold joined at h
  cases e : σ x with
  | none => rw [e] at h; exact (hτ x t h).mono (by omega)
  | some u => rw [e] at h; cases h; exact (hσ x u e).subst hτ

/-- what the joined table is when the first loop has come to i -/
noncomputable def join1 (σ τ : Str → Option Tr) (ks : List Str) : Str → Option Tr := fun x => if x ∈ ks then (σ x).map (Tr.subst τ) else none
theorem join1_nil (σ τ : Str → Option Tr) : join1 σ τ [] = fun _ => none := by funext x; simp [join1]
theorem join1_snoc {σ τ : Str → Option Tr} {ks : List Str} {k : Str} {t : Tr} (h : σ k = some t) : (fun x => if x = k then some (t.subst τ) else join1 σ τ ks x) = join1 σ τ (ks ++ [k]) := by
  funext x
  unfold join1
  by_cases hx : x = k
  · subst hx; simp [h]
  · simp [hx]
noncomputable def join2 (σ τ : Str → Option Tr) (ks : List Str) : Str → Option Tr := fun x => match σ x with
  | some u => some (u.subst τ)
  | none => if x ∈ ks then τ x else none
theorem join1_all {σ τ : Str → Option Tr} {ks : List Str} (h : ∀ x, x ∉ ks → σ x = none) : join1 σ τ ks = join2 σ τ [] := by
  funext x
  unfold join1 join2
  cases e : σ x with
  | none => simp
  | some u =>
    have : x ∈ ks := Classical.byContradiction fun hn => by rw [h x hn] at e; cases e
    simp [this]
theorem join2_snoc {σ τ : Str → Option Tr} {ks : List Str} {k : Str} {t : Tr} (h : σ k = none) (h' : τ k = some t) : (fun x => if x = k then some t else join2 σ τ ks x) = join2 σ τ (ks ++ [k]) := by
  funext x
  unfold join2
  by_cases hx : x = k
  · subst hx; simp [h, h']
  · simp [hx]
theorem join2_skip {σ τ : Str → Option Tr} {ks : List Str} {k : Str} {t : Tr} (h : σ k = some t) : join2 σ τ ks = join2 σ τ (ks ++ [k]) := by
  funext x
  unfold join2
  by_cases hx : x = k
  · subst hx; simp [h]
  · simp [hx]
theorem join2_all {σ τ : Str → Option Tr} {ks : List Str} (h : ∀ x, x ∉ ks → τ x = none) : join2 σ τ ks = joined σ τ := by
  funext x
  unfold join2 joined
  cases e : σ x with
  | some u => rfl
  | none =>
    by_cases hx : x ∈ ks
    · simp [hx]
    · simp [hx, h x hx]
def ident (ks : List Str) : Str → Option Tr := fun x => if x ∈ ks then some (.sym x) else none
theorem ident_nil : ident [] = fun _ => none := by funext x; simp [ident]
theorem ident_snoc {ks : List Str} {k : Str} : (fun x => if x = k then some (.sym k) else ident ks x) = ident (ks ++ [k]) := by
  funext x
  unfold ident
  by_cases hx : x = k
  · subst hx; simp
  · simp [hx]
theorem ident_same {ks : List Str} (x : Str) : (ident ks x).getD (.sym x) = .sym x := by
  unfold ident
  split <;> rfl
theorem not_key {kvs : List (Str × Value)} {x : Str} (h : x ∉ kvs.map (·.1)) : valueAt kvs x = none := by
  unfold valueAt
  have : kvs.find? (fun kv => decide (kv.1 = x)) = none := List.find?_eq_none.mpr fun q hq e => h (List.mem_map.mpr ⟨q, hq, of_decide_eq_true e⟩)
  rw [this]; rfl
end Mine

set_option Elab.async false
set_option maxRecDepth 100000
set_option maxHeartbeats 4000000
namespace Mine
open PySem PySem.W PyProof.Rows PySem.Calls
example : (fun (_ : OpenLaw) (_ : Params → Frag) => True) PySem.Challenge.rw_ov0041_01 hd.heap_39 := by w_top off; k_fill; trivial

abbrev SubstOut (w : World) (news : List (Addr × Obj)) (t : Tr) (r : Value) (news' : List (Addr × Obj)) : Prop := Step w news news' ∧ At w news' r t
theorem subst_tell {w : World} {bd : Nat} {σ : Str → Option Tr} {n : Nat} {t : Tr} (ok : Tr.Ok n t) : ∀ {news : List (Addr × Obj)} {v tb : Value}, At w news v t → TabOn bd w news σ tb → Tell w 107 [v, tb] news (3 * n + 5) (20 * n + 40) (SubstOut w news (t.subst σ)) := by
  induction ok with
  | @sym n x hx _ _ =>
    intro news v tb R H
    refine tell_of (binds := [(Str.ofString "e", v), (Str.ofString "table", tb)]) (by k_is) (by k_is) (fun s => BindsTo.of_eq rfl) (locs rfl) rfl rfl rfl (by decide) ?_
    intro mean mg mb dp un gd cn cs L a ccd cl outer base g L' s₁ B F X N lt T hd' hu
    cases R with
    | sym h1 h2 =>
      have hR : At w news _ (.sym x) := .sym h1 h2
      cases H with | mk q1 q2 q3 q4 q5 =>
      k_steps
      · rename (valueAt _ _ = _) => e
        unfold Halt
        obtain ⟨t', ht, hA⟩ := q5.some e
        refine tell_use [] news (share_tell hA) (by k_asm) (by k_asm) (by k_asm) (by k_asm) (fun _ h => h) tboff_nil (by k_asm) rfl (by k_room) (by k_units) ?_
        rintro r news' h' tk' F' N' - ⟨rfl, st⟩
        exact Ends.intro _ F' N' (fun _ h => h) ⟨st, by rw [Tr.subst, ht]; exact hA.step st⟩
      · rename (valueAt _ _ = _) => e
        dsimp only
        exact Ends.intro _ F N (fun _ h => h) ⟨Step.refl _, by rw [Tr.subst, q5.none e]; exact hR⟩
  | @chr n x hx _ =>
    intro news v tb R H
    refine tell_of (binds := [(Str.ofString "e", v), (Str.ofString "table", tb)]) (by k_is) (by k_is) (fun s => BindsTo.of_eq rfl) (locs rfl) rfl rfl rfl (by decide) ?_
    intro mean mg mb dp un gd cn cs L a ccd cl outer base g L' s₁ B F X N lt T hd' hu
    cases R with
    | chr h1 h2 h3 =>
      have hR : At w news _ (.chr x) := .chr h1 h2 h3
      k_steps
      dsimp only
      exact Ends.intro _ F N (fun _ h => h) ⟨Step.refl _, hR⟩
  | @call n ts tags k1 k2 k3 k4 ih =>
    intro news v tb R H
    refine tell_of (binds := [(Str.ofString "e", v), (Str.ofString "table", tb)]) (by k_is) (by k_is) (fun s => BindsTo.of_eq rfl) (locs rfl) rfl rfl rfl (by decide) ?_
    intro mean mg mb dp un gd cn cs L a ccd cl outer base g L' s₁ B F X N lt T hd' hu
    have hv := R
    cases R with
    | @call a' d li lt' t1 t2 t3 t4 t5 u1 n1 n2 vs tvs ts tags h1 h2 h3 h4 h5 h6 h7 =>
      k_steps
      unfold Halt
      rename_i la _ lo1 _ _ lb _ lo2 _ _ _ hcur _ _ _ _ R9 F9 N9 K9
      have hlab : @LT.lt Nat _ la lb := lo2.1
      have hla : ∀ p ∈ news, p.1 ≠ la := fun p hp => Nat.ne_of_lt (lo1 p hp)
      have hlb : ∀ p ∈ news, p.1 ≠ lb := fun p hp => Nat.ne_of_lt (tb_ltOf lo2.2 p hp)
      clear lo1 lo2 K9
      refine range_loop (n := ts.length) [Str.ofString "part"] (fun i nx => ∃ us ws m1 m2 news', nx = (lb, W.listOf (List.toArray ws) m2) :: (la, W.listOf (List.toArray us) m1) :: news' ∧ (∀ p ∈ news', p.1 ≠ la) ∧ (∀ p ∈ news', p.1 ≠ lb) ∧ Step w news news' ∧ us.length = i ∧ (∀ j v t, us[j]? = some v → (ts.map (Tr.subst σ))[j]? = some t → At w news' v t) ∧ TagsAre ws (tags.take i))
        rfl R9 (small_one (by decide) (by decide) (by omega) (by omega)) (by rw [rangeSize_nat]; omega) F9 N9 _ (fun _ h => h) ⟨[], [], 0, 0, news, rfl, hla, hlb, Step.refl _, rfl, (fun j v t h => (nil_get h).elim), TagsAre.nil⟩ ?_ ?_
      · rintro i tki u nx h tk own hi off' ⟨us, ws, m1, m2, news', rfl, f1, f2, st, hl, hA, hT⟩ F1 N1
        obtain ⟨vi, hvi⟩ : ∃ v, vs[i]? = some v := ⟨_, List.getElem?_eq_getElem (by omega)⟩
        obtain ⟨ti, hti⟩ : ∃ v, ts[i]? = some v := ⟨_, List.getElem?_eq_getElem (by omega)⟩
        obtain ⟨gv, hgv⟩ : ∃ v, tvs[i]? = some v := ⟨_, List.getElem?_eq_getElem (by have := h5.length; omega)⟩
        obtain ⟨gi, hgi, hgt⟩ := h5.get hgv
        have hAi := (h7 i vi ti hvi hti).step st
        have hH := H.step st
        have g1 := st.inst h1
        have g2 := st.callD h2
        have g3 := st.list h3
        have g4 := st.list h4
        have hrec := ih ti (List.mem_of_getElem? hti) hAi hH
        have off1 := tboff_symm (tboff_tail' (tboff_tail' off'))
        have oka := k4 ti (List.mem_of_getElem? hti)
        clear N9 F9 R9 h1 h2 h3 h4
        have hwl : ws.length = i := by have := hT.length; rw [List.length_take] at this; omega
        have q1 : ∀ p ∈ own, p.1 ≠ la := fun p hp => off' p hp _ (.tail _ (.head _))
        have q2 : ∀ p ∈ own, p.1 ≠ lb := fun p hp => off' p hp _ (.head _)
        rcases hAi with ⟨b1, b2⟩ | ⟨b1, b2, b3⟩ | ⟨b1, b2, b3, b4, b5, b6, b7⟩
        all_goals (
          (try (have hshort := oka.symLen))
          k_steps
          unfold Halt
          rename Fr _ _ _ _ => F2
          rename News _ _ _ _ => N2
          refine tell_use ((lb, W.listOf ws.toArray m2) :: (la, W.listOf us.toArray m1) :: own) news' hrec B F2 X N2 (fun p hp => by simp only [List.cons_append, List.mem_cons, List.mem_append] at hp ⊢; grind) (tboff_cons f2 (tboff_cons f1 (tboff_symm off1))) T rfl (by k_room) (by k_units) ?_
          rintro r news2 h2 tk2 F3 N3 off3 ⟨st2, hr⟩
          simp only [List.cons_append] at N3
          have f1' := tboff_head (tboff_tail off3)
          have f2' := tboff_head off3
          have off4 := tboff_tail (tboff_tail off3)
          have ho1 : ∀ p ∈ own ++ news2, p.1 ≠ la := fun p hp => (List.mem_append.mp hp).elim (q1 p) (f1' p)
          have ho2 : ∀ p ∈ own ++ news2, p.1 ≠ lb := fun p hp => (List.mem_append.mp hp).elim (q2 p) (f2' p)
          have e1 := st2.inst g1
          have e2 := st2.callD g2
          have e4 := st2.list g4
          clear g1 g2 g3 g4 b1 b2 N2 F2 N1 F1
          k_steps
          rename Fr _ _ _ _ => F4
          rename News _ _ _ _ => N4
          refine tbEnd_of ((lb, W.listOf (List.toArray (ws ++ [gv])) (m2 + 1)) :: (la, W.listOf (List.toArray (us ++ [r])) (m1 + 1)) :: news2) F4 N4 (fun p hp => by simp only [List.mem_cons, List.mem_append] at hp ⊢; grind) (fun p hp => by simp only [List.mem_cons, List.mem_append]; grind) (tboff_cons' q2 (tboff_cons' q1 off4))
            ⟨⟨us ++ [r], ws ++ [gv], _, _, news2, rfl, f1', f2', st.trans st2, by simp [hl], snoc_rel (fun j v t e1 e2 => (hA j v t e1 e2).step st2) (by rw [hl, List.getElem?_map, hti]; rfl) hr, ?_⟩, fun z z1 z2 => by simp only [List.contains_cons, List.contains_nil, Bool.or_false, Bool.or_eq_false_iff, beq_eq_false_iff_ne, ne_eq] at z2; simp [z1, z2]⟩
          rw [List.take_add_one, hgi]
          exact hT.append (.cons hgt .nil))
      · rintro u nx h tk ⟨us, ws, m1, m2, news', rfl, f1, f2, st, hl, hA, hT⟩ F1 N1
        clear N9 F9 R9
        k_steps
        rename Fr _ _ _ _ => F2
        rename News _ _ _ _ => N2
        refine Ends.intro _ F2 N2 (fun _ h => h) ⟨st.sub (fun p hp => by k_mem), ?_⟩
        rw [Tr.subst_call]
        refine .call (by k_mem) (by k_mem) (by k_mem) (by k_mem) (by rwa [← k2, List.take_length] at hT) (by rw [List.length_map]; exact hl) (fun j v t e1 e2 => (hA j v t e1 e2).sub (fun p hp => by k_mem))
end Mine

set_option Elab.async false
set_option maxRecDepth 100000
set_option maxHeartbeats 4000000
namespace Mine
open PySem PySem.W PyProof.Rows PySem.Calls
example : (fun (_ : OpenLaw) (_ : Params → Frag) => True) PySem.Challenge.rw_ov0041_01 hd.heap_39 := by w_top off; k_fill; trivial

theorem attrs_tell {w : World} {news : List (Addr × Obj)} {u v : Value} {x y : Str} (R : At w news u (.chr x)) (R' : At w news v (.chr y)) : Tell w 114 [u, v] news 2 20 (fun r news' => r = .bool true ∧ Sub news news') := by
  refine tell_of (binds := [(Str.ofString "u", u), (Str.ofString "v", v)]) (by k_is) (by k_is) (fun s => BindsTo.of_eq rfl) (locs rfl) rfl rfl rfl (by decide) ?_
  intro mean mg mb dp un gd cn cs L a ccd cl outer base g L' s₁ B F X N lt T hd' hu
  cases R with | chr h1 h2 h3 =>
  cases R' with | chr k1 k2 k3 =>
  k_steps
  dsimp only
  rename Fr _ _ _ _ => F2
  rename News _ _ _ _ => N2
  exact Ends.intro _ F2 N2 (fun _ h => h) ⟨rfl, Sub.refl _⟩

abbrev EqOut (news : List (Addr × Obj)) (P : Prop) (r : Value) (news' : List (Addr × Obj)) : Prop := (∃ b : Bool, r = .bool b ∧ (b = true ↔ P)) ∧ Sub news news'

theorem all_tell {w : World} {news : List (Addr × Obj)} {l1 l2 : Addr} {vs us : List Value} {n1 n2 D U : Nat} {ts rs : List Tr} (m1 : (l1, W.listOf vs.toArray n1) ∈ news) (m2 : (l2, W.listOf us.toArray n2) ∈ news)
    (e1 : vs.length = ts.length) (e2 : us.length = rs.length) (hs : ts.length ≤ 4) (hs2 : rs.length ≤ 4)
    (h : ∀ (i : Nat) v t u r, vs[i]? = some v → ts[i]? = some t → us[i]? = some u → rs[i]? = some r → ∀ {news' : List (Addr × Obj)}, Sub news news' → Tell w 121 [v, u] news' D U (EqOut news' (t = r))) :
    Tell w 128 [.ref l1, .ref l2] news (D + 3) (U + 20) (EqOut news (ts = rs)) := by
  refine tell_of (binds := [(Str.ofString "first", .ref l1), (Str.ofString "second", .ref l2)]) (by k_is) (by k_is) (fun s => BindsTo.of_eq rfl) (locs rfl) rfl rfl rfl (by decide) ?_
  intro mean mg mb dp un gd cn cs L a ccd cl outer base g L' s₁ B F X N lt T hd' hu
  k_steps
  · rename ((_ : Int) ≠ _) => hne
    dsimp only
    exact Ends.intro _ F N (fun _ h => h) ⟨⟨false, rfl, ⟨nofun, fun e => absurd (by rw [e1, e2, e]) hne⟩⟩, Sub.refl _⟩
  · unfold Halt
    rename ((_ : Int) = _) => heq
    rename IsRange _ _ _ _ _ _ _ _ => R9
    rename Fr _ _ _ _ => F9
    rename News _ _ _ _ => N9
    have hlen : ts.length = rs.length := by omega
    refine range_loop (n := ts.length) [] (fun i nx => Sub news nx ∧ ∀ j, j < i → ts[j]? = rs[j]?)
        rfl R9 (small_one (by decide) (by decide) (by omega) (by omega)) (by rw [rangeSize_nat]; omega) F9 N9 _ (fun _ h => h) ⟨Sub.refl _, fun j hj => absurd hj (Nat.not_lt_zero _)⟩ ?_ ?_
    · rintro i tki u nx hh tk own hi off' ⟨sb, hJ⟩ F1 N1
      obtain ⟨vi, hvi⟩ : ∃ v, vs[i]? = some v := ⟨_, List.getElem?_eq_getElem (by omega)⟩
      obtain ⟨ti, hti⟩ : ∃ v, ts[i]? = some v := ⟨_, List.getElem?_eq_getElem (by omega)⟩
      obtain ⟨ui, hui⟩ : ∃ v, us[i]? = some v := ⟨_, List.getElem?_eq_getElem (by omega)⟩
      obtain ⟨ri, hri⟩ : ∃ v, rs[i]? = some v := ⟨_, List.getElem?_eq_getElem (by omega)⟩
      have q1 := sb _ m1
      have q2 := sb _ m2
      have hrec := h i vi ti ui ri hvi hti hui hri sb
      clear F9 N9 R9
      k_steps
      unfold Halt
      rename Fr _ _ _ _ => F2
      rename News _ _ _ _ => N2
      refine tell_use own nx hrec B F2 X N2 (fun p hp => by simp only [List.mem_append] at hp ⊢; grind) off' T rfl (by k_room) (by k_units) ?_
      rintro r news2 h2 tk2 F3 N3 off3 ⟨⟨b, rfl, hb⟩, sb2⟩
      cases b with
      | false =>
        k_steps
        refine Ends.intro news2 F3 N3 (fun p hp => by k_mem) ⟨⟨false, rfl, ⟨nofun, fun e => ?_⟩⟩, sb.trans sb2⟩
        rw [e, hri] at hti
        exact hb.mpr (Option.some.inj hti).symm
      | true =>
        k_steps
        refine tbEnd_of news2 F3 N3 (fun p hp => by k_mem) (fun p hp => by k_mem) off3 ⟨⟨sb.trans sb2, fun j hj => ?_⟩, fun z z1 z2 => by simp [z1]⟩
        rcases Nat.lt_succ_iff_lt_or_eq.mp hj with hj | rfl
        · exact hJ j hj
        · rw [hti, hri, hb.mp rfl]
    · rintro u nx hh tk ⟨sb, hJ⟩ F1 N1
      clear F9 N9 R9
      k_steps
      dsimp only
      refine Ends.intro nx F1 N1 (fun _ h => h) ⟨⟨true, rfl, ⟨fun _ => ?_, fun _ => rfl⟩⟩, sb⟩
      refine List.ext_getElem? fun j => ?_
      rcases Nat.lt_or_ge j ts.length with hj | hj
      · exact hJ j hj
      · rw [List.getElem?_eq_none hj, List.getElem?_eq_none (by omega)]

theorem lang_tell {w : World} {n : Nat} {t : Tr} (ok : Tr.Ok n t) : ∀ {r : Tr} {m : Nat}, Tr.Ok m r → ∀ {news : List (Addr × Obj)} {u v : Value}, At w news u t → At w news v r →
    Tell w 121 [u, v] news (4 * n + 5) (60 * n + 60) (EqOut news (t = r)) := by
  induction ok with
  | @sym n x hx hx2 _ =>
    intro r m ok2 news u v R R'
    refine tell_of (binds := [(Str.ofString "u", u), (Str.ofString "v", v)]) (by k_is) (by k_is) (fun s => BindsTo.of_eq rfl) (locs rfl) rfl rfl rfl (by decide) ?_
    intro mean mg mb dp un gd cn cs L a ccd cl outer base g L' s₁ B F X N lt T hd' hu
    have hR := R
    have hR' := R'
    cases R with | sym h1 h2 =>
    cases R' with
    | @sym _ _ _ _ _ _ _ y k1 k2 =>
      k_steps
      dsimp only
      exact Ends.intro _ F N (fun _ h => h) ⟨⟨x == y, rfl, by simp⟩, Sub.refl _⟩
    | chr k1 k2 k3 =>
      k_steps
      dsimp only
      exact Ends.intro _ F N (fun _ h => h) ⟨⟨false, rfl, ⟨nofun, nofun⟩⟩, Sub.refl _⟩
    | call k1 k2 k3 k4 k5 k6 k7 =>
      k_steps
      dsimp only
      exact Ends.intro _ F N (fun _ h => h) ⟨⟨false, rfl, ⟨nofun, nofun⟩⟩, Sub.refl _⟩
  | @chr n x hx hx2 =>
    intro r m ok2 news u v R R'
    refine tell_of (binds := [(Str.ofString "u", u), (Str.ofString "v", v)]) (by k_is) (by k_is) (fun s => BindsTo.of_eq rfl) (locs rfl) rfl rfl rfl (by decide) ?_
    intro mean mg mb dp un gd cn cs L a ccd cl outer base g L' s₁ B F X N lt T hd' hu
    have hR := R
    have hR' := R'
    cases R with | chr h1 h2 h3 =>
    cases R' with
    | sym k1 k2 =>
      k_steps
      dsimp only
      exact Ends.intro _ F N (fun _ h => h) ⟨⟨false, rfl, ⟨nofun, nofun⟩⟩, Sub.refl _⟩
    | @chr _ _ _ _ _ _ _ _ _ _ _ _ y k1 k2 k3 =>
      k_steps
      unfold Halt
      refine tell_use [] news (attrs_tell hR hR') B F X N (fun _ h => h) tboff_nil T rfl (by k_room) (by k_units) ?_
      rintro r news2 h2' tk2 F3 N3 - ⟨rfl, sb⟩
      simp only [List.nil_append] at N3
      have p1 := sb _ h1
      have p2 := sb _ h2
      have p3 := sb _ h3
      have p4 := sb _ k1
      have p5 := sb _ k2
      have p6 := sb _ k3
      have y2 := ok2.chrOk
      clear N F h1 h2 h3 k1 k2 k3
      k_steps
      unfold Halt
      rename Fr _ _ _ _ => F4
      rename News _ _ _ _ => N4
      refine eq_rd (fun p hp => N4 p (List.mem_cons_of_mem _ hp)) (rd_one p3) (rd_one p6) (by simpa [simple, simpleAll] using hx2) (by simpa [simple, simpleAll] using y2) (k := 1) (by simp [PyData.depth, PyData.depthAll]) (by k_units) ?_
      intro b hb
      k_steps
      dsimp only
      exact Ends.intro news2 F4 N4 (fun p hp => List.mem_cons_of_mem _ hp) ⟨⟨b, rfl, by simpa using hb⟩, sb⟩
    | call k1 k2 k3 k4 k5 k6 k7 =>
      k_steps
      dsimp only
      exact Ends.intro _ F N (fun _ h => h) ⟨⟨false, rfl, ⟨nofun, nofun⟩⟩, Sub.refl _⟩
  | @call n ts tags f1 f2 f3 f4 ih =>
    intro r m ok2 news u v R R'
    refine tell_of (binds := [(Str.ofString "u", u), (Str.ofString "v", v)]) (by k_is) (by k_is) (fun s => BindsTo.of_eq rfl) (locs rfl) rfl rfl rfl (by decide) ?_
    intro mean mg mb dp un gd cn cs L a ccd cl outer base g L' s₁ B F X N lt T hd' hu
    have hR := R
    have hR' := R'
    cases R with | call h1 h2 h3 h4 h5 h6 h7 =>
    cases R' with
    | sym k1 k2 =>
      k_steps
      dsimp only
      exact Ends.intro _ F N (fun _ h => h) ⟨⟨false, rfl, ⟨nofun, nofun⟩⟩, Sub.refl _⟩
    | chr k1 k2 k3 =>
      k_steps
      dsimp only
      exact Ends.intro _ F N (fun _ h => h) ⟨⟨false, rfl, ⟨nofun, nofun⟩⟩, Sub.refl _⟩
    | @call _ _ _ _ _ _ _ _ _ _ _ _ us tvs rs gs k1 k2 k3 k4 k5 k6 k7 =>
      cases ok2 with | @call m _ _ w1 w2 w3 w4 =>
      k_steps
      unfold Halt
      refine eq_rd N (.list h4 (by rw [List.length_map]; exact h5.length) (rd_tags h5)) (.list k4 (by rw [List.length_map]; exact k5.length) (rd_tags k5)) (tags_simple f3) (tags_simple w3) (k := 1) tags_depth (by k_units) ?_
      intro b hb
      have hb' : b = true ↔ tags = gs := hb.trans ⟨fun e => tagsD_inj (PyData.list.inj e), fun e => by rw [e]⟩
      cases b with
      | false =>
        k_steps
        dsimp only
        exact Ends.intro _ F N (fun _ h => h) ⟨⟨false, rfl, ⟨nofun, fun e => hb'.mpr (by cases e; rfl)⟩⟩, Sub.refl _⟩
      | true =>
        k_steps
        unfold Halt
        refine tell_use [] news (all_tell h3 k3 h6 k6 f1 w1 (D := 4 * n + 5) (U := 60 * n + 60) (fun i v t u r e1 e2 e3 e4 news' sb => ih t (List.mem_of_getElem? e2) (w4 r (List.mem_of_getElem? e4)) ((h7 i v t e1 e2).sub sb) ((k7 i u r e3 e4).sub sb))) B F X N (fun _ h => h) tboff_nil T rfl (by k_room) (by k_units) ?_
        rintro r news2 h2' tk2 F3 N3 - ⟨⟨b, rfl, hb2⟩, sb⟩
        simp only [List.nil_append] at N3
        k_steps
        dsimp only
        exact Ends.intro _ F3 N3 (fun _ h => h) ⟨⟨b, rfl, hb2.trans ⟨fun e => by rw [e, hb'.mp rfl], fun e => by cases e; rfl⟩⟩, sb⟩
end Mine

set_option Elab.async false
set_option maxRecDepth 100000
set_option maxHeartbeats 4000000
namespace Mine
open PySem PySem.W PyProof.Rows PySem.Calls
example : (fun (_ : OpenLaw) (_ : Params → Frag) => True) PySem.Challenge.rw_ov0041_01 hd.heap_39 := by w_top off; k_fill; trivial

abbrev ShownOut (news : List (Addr × Obj)) (d : PyData) (r : Value) (news' : List (Addr × Obj)) : Prop := Rd news' r d ∧ Sub news news'
theorem shown_tell {w : World} {n : Nat} {t : Tr} (ok : Tr.Ok n t) : ∀ {news : List (Addr × Obj)} {v : Value}, At w news v t → Tell w 168 [v] news (4 * n + 5) (60 * n + 60) (ShownOut news (shown t)) := by
  induction ok with
  | @sym n x hx hx2 _ =>
    intro news v R
    refine tell_of (binds := [(Str.ofString "e", v)]) (by k_is) (by k_is) (fun s => BindsTo.of_eq rfl) (locs rfl) rfl rfl rfl (by decide) ?_
    intro mean mg mb dp un gd cn cs L a ccd cl outer base g L' s₁ B F X N lt T hd' hu
    cases R with | sym h1 h2 =>
    k_steps
    dsimp only
    exact Ends.intro _ F N (fun _ h => h) ⟨by rw [shown]; exact .str _ _, Sub.refl _⟩
  | @chr n x hx hx2 =>
    intro news v R
    refine tell_of (binds := [(Str.ofString "e", v)]) (by k_is) (by k_is) (fun s => BindsTo.of_eq rfl) (locs rfl) rfl rfl rfl (by decide) ?_
    intro mean mg mb dp un gd cn cs L a ccd cl outer base g L' s₁ B F X N lt T hd' hu
    cases R with | chr h1 h2 h3 =>
    k_steps
    dsimp only
    exact Ends.intro _ F N (fun _ h => h) ⟨by rw [shown]; exact .str _ _, Sub.refl _⟩
  | @call n ts tags f1 f2 f3 f4 ih =>
    intro news v R
    refine tell_of (binds := [(Str.ofString "e", v)]) (by k_is) (by k_is) (fun s => BindsTo.of_eq rfl) (locs rfl) rfl rfl rfl (by decide) ?_
    intro mean mg mb dp un gd cn cs L a ccd cl outer base g L' s₁ B F X N lt T hd' hu
    cases R with | @call a' d li lt' t1 t2 t3 t4 t5 u1 n1 n2 vs tvs ts tags h1 h2 h3 h4 h5 h6 h7 =>
    k_steps
    unfold Halt
    refine LCg.ListComp_U (F₀ := F) (by rfl) (by decide) (by rfl) (by decide) (by rfl) ?_
    k_steps
    unfold Halt
    refine LCg.CompSrc.ledger (by rfl) (by k_asm) (by k_asm) h3 (by rw [sizeLine_eq, List.size_toArray]; omega) ?_
    intro g'
    refine comp_rest (n := vs.toArray.size) (fun i ys nx => Sub news nx ∧ ys.length = i ∧ ∀ (j : Nat) v d, ys[j]? = some v → (ts.map shown)[j]? = some d → Rd nx v d) ?_ ?_ _ _ _ _ rfl ⟨Sub.refl _, rfl, fun j v d h => (nil_get h).elim⟩
    · rintro i v ys nx I oI C oC D m₂ hh tk E' hi hP ⟨sb, hl, hJ⟩ hC hx F1 N1 off ne
      have hi' : i < ts.length := by rw [List.size_toArray] at hi; omega
      obtain ⟨ti, hti⟩ : ∃ v, ts[i]? = some v := ⟨_, List.getElem?_eq_getElem hi'⟩
      have hvi : vs[i]? = some v := by simpa using hP
      have hrec := ih ti (List.mem_of_getElem? hti) ((h7 i v ti hvi hti).sub sb)
      have p3 := sb _ h3
      k_steps
      unfold Halt
      refine tell_use [(I, oI), (C, oC), (D, LCg.lst ys)] nx hrec B F1 X N1 (fun p hp => hp) (of_off3 off) T rfl (by k_room) (by k_units) ?_
      rintro r news2 h2' tk2 F3 N3 off3 ⟨hr, sb2⟩
      refine LCg.CompEnd.intro F3 N3 news2 (fun p hp => hp) (off3_of off3) (.inr ⟨_, sb2 _ p3, rfl, _, rfl⟩) ⟨sb.trans sb2, by simp [hl], snoc_rel (fun j v d e1 e2 => (hJ j v d e1 e2).sub sb2) (by rw [hl, List.getElem?_map, hti]; rfl) hr⟩
    · rintro ys nx ⟨sb, hl, hJ⟩
      rw [List.size_toArray] at hl
      have hl5 := h5.length
      have p1 := sb _ h1
      have p2 := sb _ h2
      have p4 := sb _ h4
      k_steps
      dsimp only
      rename Fr _ _ _ _ => F9
      rename News _ _ _ _ => N9
      refine Ends.intro _ F9 N9 (fun _ h => h) ⟨?_, fun p hp => by have := sb p hp; k_mem⟩
      rw [shown_call]
      refine .list (by k_mem) (by simp [hl, h6]) (snoc_both (by rw [hl, List.length_map, h6]) (fun j v d e1 e2 => (hJ j v d e1 e2).sub (fun p hp => by k_mem)) (.list (by k_mem) (by rw [List.length_map]; exact hl5) (rd_tags h5)))
end Mine

set_option Elab.async false
set_option maxRecDepth 100000
set_option maxHeartbeats 4000000
namespace Mine
open PySem PySem.W PyProof.Rows PySem.Calls
example : (fun (_ : OpenLaw) (_ : Params → Frag) => True) PySem.Challenge.rw_ov0041_01 hd.heap_39 := by w_top off; k_fill; trivial

theorem own_tell {w : World} {bd : Nat} {σ : Str → Option Tr} {k : Nat} (hσ : ∀ x t, σ x = some t → Tr.Ok k t) {n : Nat} {t : Tr} (ok : Tr.Ok n t) : ∀ {news : List (Addr × Obj)} {v tb : Value}, At w news v t → TabOn bd w news σ tb →
    Tell w 173 [v, tb] news (4 * n + 4 * k + 10) (60 * n + 60 * k + 120) (ShownOut news (shown (t.subst σ))) := by
  induction ok with
  | @sym n x hx hx2 hx3 =>
    intro news v tb R H
    refine tell_ofC (binds := [(Str.ofString "e", v), (Str.ofString "table", tb)]) (by k_is) (by k_is) (fun s => BindsTo.of_eq rfl) (by rfl) (by decide +kernel) rfl rfl rfl ?_
    intro mean mg mb dp un gd cn cs L a ccd cl outer base g L' s₁ keep cells B F X N Y off lt T hd' hu
    obtain ⟨oc, rfl, dc⟩ := CellsAre.one (n := Str.ofString "table") (c := L' + 1) Y
    have nc : ∀ p ∈ news, p.1 ≠ L' + 1 := fun p hp => Nat.ne_of_lt (Nat.lt_succ_of_lt (lt p (List.mem_append_right _ hp)))
    have nk : ∀ p ∈ keep, p.1 ≠ L' + 1 := fun p hp => Nat.ne_of_lt (Nat.lt_succ_of_lt (lt p (List.mem_append_left _ hp)))
    clear Y
    simp only [List.cons_append, List.nil_append] at N
    have hR := R
    cases R with | sym h1 h2 =>
    cases H with | mk q1 q2 q3 q4 q5 =>
    k_steps
    · rename (valueAt _ _ = _) => e
      obtain ⟨t', ht, hA⟩ := q5.some e
      unfold Halt
      refine tell_use ((L' + 1, oc) :: keep) news (shown_tell (hσ _ _ ht) hA) (by k_asm) (by k_asm) (by k_asm) (by k_asm) (fun _ h => h) (tboff_cons nc off) (by k_asm) rfl (by k_room) (by k_units) ?_
      rintro r news2 h2' tk2 F3 N3 off3 ⟨hr, sb2⟩
      k_steps
      dsimp only
      refine EndsK.intro news2 F3 N3 (fun p hp => List.mem_cons_of_mem _ hp) (tboff_tail off3) ⟨?_, sb2⟩
      rw [Tr.subst, ht]; exact hr
    · rename (valueAt _ _ = _) => e
      unfold Halt
      refine tell_use ((L' + 1, oc) :: keep) news (shown_tell (Tr.Ok.sym (n := 0) hx hx2 hx3) hR) (by k_asm) (by k_asm) (by k_asm) (by k_asm) (fun _ h => h) (tboff_cons nc off) (by k_asm) rfl (by k_room) (by k_units) ?_
      rintro r news2 h2' tk2 F3 N3 off3 ⟨hr, sb2⟩
      k_steps
      dsimp only
      refine EndsK.intro news2 F3 N3 (fun p hp => List.mem_cons_of_mem _ hp) (tboff_tail off3) ⟨?_, sb2⟩
      rw [Tr.subst, q5.none e]; exact hr
  | @chr n x hx hx2 =>
    intro news v tb R H
    refine tell_ofC (binds := [(Str.ofString "e", v), (Str.ofString "table", tb)]) (by k_is) (by k_is) (fun s => BindsTo.of_eq rfl) (by rfl) (by decide +kernel) rfl rfl rfl ?_
    intro mean mg mb dp un gd cn cs L a ccd cl outer base g L' s₁ keep cells B F X N Y off lt T hd' hu
    obtain ⟨oc, rfl, dc⟩ := CellsAre.one (n := Str.ofString "table") (c := L' + 1) Y
    have nc : ∀ p ∈ news, p.1 ≠ L' + 1 := fun p hp => Nat.ne_of_lt (Nat.lt_succ_of_lt (lt p (List.mem_append_right _ hp)))
    have nk : ∀ p ∈ keep, p.1 ≠ L' + 1 := fun p hp => Nat.ne_of_lt (Nat.lt_succ_of_lt (lt p (List.mem_append_left _ hp)))
    clear Y
    simp only [List.cons_append, List.nil_append] at N
    have hR := R
    cases R with | chr h1 h2 h3 =>
    k_steps
    · unfold Halt
      refine tell_use ((L' + 1, oc) :: keep) news (shown_tell (Tr.Ok.chr (n := 0) hx hx2) hR) (by k_asm) (by k_asm) (by k_asm) (by k_asm) (fun _ h => h) (tboff_cons nc off) (by k_asm) rfl (by k_room) (by k_units) ?_
      rintro r news2 h2' tk2 F3 N3 off3 ⟨hr, sb2⟩
      k_steps
      dsimp only
      refine EndsK.intro news2 F3 N3 (fun p hp => List.mem_cons_of_mem _ hp) (tboff_tail off3) ⟨?_, sb2⟩
      rw [Tr.subst]; exact hr
  | @call n ts tags f1 f2 f3 f4 ih =>
    intro news v tb R H
    refine tell_ofC (binds := [(Str.ofString "e", v), (Str.ofString "table", tb)]) (by k_is) (by k_is) (fun s => BindsTo.of_eq rfl) (by rfl) (by decide +kernel) rfl rfl rfl ?_
    intro mean mg mb dp un gd cn cs L a ccd cl outer base g L' s₁ keep cells B F X N Y off lt T hd' hu
    obtain ⟨oc, rfl, dc⟩ := CellsAre.one (n := Str.ofString "table") (c := L' + 1) Y
    have nc : ∀ p ∈ news, p.1 ≠ L' + 1 := fun p hp => Nat.ne_of_lt (Nat.lt_succ_of_lt (lt p (List.mem_append_right _ hp)))
    have nk : ∀ p ∈ keep, p.1 ≠ L' + 1 := fun p hp => Nat.ne_of_lt (Nat.lt_succ_of_lt (lt p (List.mem_append_left _ hp)))
    clear Y
    simp only [List.cons_append, List.nil_append] at N
    have hR := R
    cases R with | @call a' d li lt' t1 t2 t3 t4 t5 u1 n1 n2 vs tvs ts tags h1 h2 h3 h4 h5 h6 h7 =>
    k_steps
    unfold Halt
    refine LCg.ListComp_U (F₀ := F) (by with_unfolding_all rfl) (by decide) (by rfl) (by decide) (by rfl) ?_
    k_steps
    unfold Halt
    refine LCg.CompSrc.ledger (by rfl) (by k_asm) (by k_asm) (by k_mem) (by rw [sizeLine_eq, List.size_toArray]; omega) (its := vs.toArray) (k := n1) ?_
    intro g'
    refine comp_rest (n := vs.toArray.size) (fun i ys full => ∃ nx, full = (L' + 1, oc) :: (keep ++ nx) ∧ TbOff ((L' + 1, oc) :: keep) nx ∧ Sub news nx ∧ ys.length = i ∧ ∀ (j : Nat) v d, ys[j]? = some v → (ts.map fun t => shown (t.subst σ))[j]? = some d → Rd nx v d) ?_ ?_ _ _ _ _ rfl ⟨news, rfl, tboff_cons nc off, Sub.refl _, rfl, fun j v d h => (nil_get h).elim⟩
    · rintro i v ys full I oI C oC D m₂ hh tk E' hi hP ⟨nx, rfl, offn, sb, hl, hJ⟩ hC hx F1 N1 off3 ne
      have hi' : i < ts.length := by rw [List.size_toArray] at hi; omega
      obtain ⟨ti, hti⟩ : ∃ v, ts[i]? = some v := ⟨_, List.getElem?_eq_getElem hi'⟩
      have hvi : vs[i]? = some v := by simpa using hP
      have hrec := ih ti (List.mem_of_getElem? hti) ((h7 i v ti hvi hti).sub sb) (H.step sb.step)
      have p3 := sb _ h3
      have hkp := of_off3 (o1 := oI) (o2 := oC) (o3 := LCg.lst ys) off3
      k_steps
      unfold Halt
      refine tell_use ((I, oI) :: (C, oC) :: (D, LCg.lst ys) :: (L' + 1, oc) :: keep) nx hrec B F1 X N1 (fun p hp => hp) (tboff_app (as := [(I, oI), (C, oC), (D, LCg.lst ys)]) (fun p hp q hq => hkp p hp q (.tail _ (List.mem_append_right _ hq))) offn) T rfl (by k_room) (by k_units) ?_
      rintro r news2 h2' tk2 F3 N3 offr ⟨hr, sb2⟩
      refine LCg.CompEnd.intro F3 N3 ((L' + 1, oc) :: (keep ++ news2)) (fun p hp => hp) (off3_of (o1 := oI) (o2 := oC) (o3 := LCg.lst ys) fun p hp q hq => ?_) (.inr ⟨_, List.mem_cons_of_mem _ (List.mem_append_right _ (sb2 _ p3)), rfl, _, rfl⟩) ⟨news2, rfl, tboff_tail (tboff_tail (tboff_tail offr)), sb.trans sb2, by simp [hl], snoc_rel (fun j v d e1 e2 => (hJ j v d e1 e2).sub sb2) (by rw [hl, List.getElem?_map, hti]; rfl) hr⟩
      rcases List.mem_cons.mp hq with rfl | hq
      · exact hkp p hp _ (.head _)
      · rcases List.mem_append.mp hq with hq | hq
        · exact hkp p hp q (.tail _ (List.mem_append_left _ hq))
        · exact tboff_left (as := [(I, oI), (C, oC), (D, LCg.lst ys)]) offr p hp q hq
    · rintro ys full ⟨nx, rfl, offn, sb, hl, hJ⟩
      rw [List.size_toArray] at hl
      have hl5 := h5.length
      have p1 := sb _ h1
      have p2 := sb _ h2
      have p4 := sb _ h4
      k_steps
      dsimp only
      rename_i D2 _ _ o1 D1 cc _ lq2 l0 _ _ _ lq1 D0 _ F9 N9 lq0
      have w0 : ∀ q ∈ keep, q.1 ≠ D0 := fun q hq => Nat.ne_of_lt (tb_ltOf lq0.2.2.2.2 q (List.mem_append_left _ hq))
      have w1 : ∀ q ∈ keep, q.1 ≠ l0 := fun q hq => Nat.ne_of_lt (tb_ltOf lq1.2.2.2 q (List.mem_append_left _ hq))
      have w2 : ∀ q ∈ keep, q.1 ≠ D1 := fun q hq => Nat.ne_of_lt (tb_ltOf lq2.2.2 q (List.mem_append_left _ hq))
      have w3 : ∀ q ∈ keep, q.1 ≠ D2 := fun q hq => off1_ne o1.2 q (List.mem_append_left _ hq)
      refine EndsK.intro ((D0, W.listOf (List.toArray (ys ++ [Value.ref D1])) 0) :: (l0, W.listOf (List.toArray [Value.ref D1]) 0) :: (D1, W.listOf tvs.toArray cc) :: (D2, LCg.lst ys) :: nx) F9 N9 (fun p hp => by simp only [List.mem_append, List.mem_cons] at hp ⊢; grind) (tboff_cons' w0 (tboff_cons' w1 (tboff_cons' w2 (tboff_cons' w3 (tboff_tail offn))))) ⟨?_, fun p hp => by have := sb p hp; k_mem⟩
      rw [Tr.subst_call, shown_call, List.map_map]
      refine .list (by k_mem) (by simp [hl, h6]) (snoc_both (by rw [hl, List.length_map, h6]) (fun j v d e1 e2 => (hJ j v d e1 e2).sub (fun p hp => by k_mem)) (.list (by k_mem) (by rw [List.length_map]; exact hl5) (rd_tags h5)))
end Mine

set_option Elab.async false
set_option maxRecDepth 100000
set_option maxHeartbeats 4000000
namespace Mine
open PySem PySem.W PyProof.Rows PySem.Calls
example : (fun (_ : OpenLaw) (_ : Params → Frag) => True) PySem.Challenge.rw_ov0041_01 hd.heap_39 := by w_top off; k_fill; trivial

inductive Sup (a : Addr) : List (Addr × Obj) → Prop
  | mk {vs : List Value} {ns : List Int} {n : Nat} : IntsAre vs ns → vs.length ≤ 1000 → Sup a [(a, W.listOf vs.toArray n)]

theorem one_tell {w : World} {a : Addr} {news : List (Addr × Obj)} (S : Sup a news) {m : Int} {tk : Tok} (hm : 0 < m) (hm4 : m ≤ 4) :
    Tell w 142 [.ref a, .int m tk] news 2 20 (fun r news' => Sup a news' ∧ ∃ i t, r = .int i t ∧ 0 ≤ i ∧ i < m) := by
  refine tell_of (binds := [(Str.ofString "supply", .ref a), (Str.ofString "most", .int m tk)]) (by k_is) (by k_is) (fun s => BindsTo.of_eq rfl) (locs rfl) rfl rfl rfl (by decide) ?_
  intro mean mg mb dp un gd cn cs L ad ccd cl outer base g L' s₁ B F X N lt T hd' hu
  cases S with | @mk vs ns n hI hl =>
  k_steps
  · dsimp only
    exact Ends.intro _ F N (fun _ h => h) ⟨.mk hI hl, 0, _, rfl, Int.le_refl _, hm⟩
  · rename (vs.isEmpty = false) => hne
    have hpos : 0 < vs.length := by cases vs <;> simp_all
    dsimp only
    refine kpa_pop F N (.head (fun _ h => nomatch h)) hI hpos (by rw [sizeLine_eq]; omega) ?_
    intro h' t F2 N2 hI2
    k_steps
    dsimp only
    exact Ends.intro _ F2 N2 (fun _ h => h) ⟨.mk hI2 (by rw [List.length_dropLast]; omega), _, _, rfl, fmod_lo _ hm, fmod_hi _ hm⟩

theorem names_tell {w : World} : Tell w 149 [] [] 2 20 (fun r news' => ∃ a n t1 t2 t3 t4, r = .ref a ∧ news' = [(a, W.listOf [Value.str (Str.ofString "p") t1, Value.str (Str.ofString "q") t2, Value.str (Str.ofString "r") t3, Value.str (Str.ofString "s") t4].toArray n)]) := by
  refine tell_of (binds := []) (by k_is) (by k_is) (fun s => BindsTo.of_eq rfl) (locs rfl) rfl rfl rfl (by decide) ?_
  intro mean mg mb dp un gd cn cs L ad ccd cl outer base g L' s₁ B F X N lt T hd' hu
  k_steps
  dsimp only
  rename Fr _ _ _ _ => F2
  rename News _ _ _ _ => N2
  exact Ends.intro _ F2 N2 (fun _ h => h) ⟨_, _, _, _, _, _, rfl, rfl⟩

abbrev ValueOut (w : World) (a : Addr) (k : Nat) (r : Value) (news' : List (Addr × Obj)) : Prop := ∃ sup trees t, news' = sup ++ trees ∧ Sup a sup ∧ TbOff sup trees ∧ At w trees r t ∧ Tr.Ok k t

theorem symbol_end {w : World} {a : Addr} {k : Nat} {g : Heap} {L' : Addr} {s₁ : Shared} {m : Str → Option Value} {h : Heap} {tk : Nat} {x d : Addr} {t1 t2 t3 u1 u2 : Tok} {nm : Str} {ex sup : List (Addr × Obj)} (F : Fr g L' h m)
    (N : News g L' h ((x, instObj 67 d) :: (d, symD w t1 t2 t3 u1 u2 nm) :: (ex ++ sup))) (S : Sup a sup) (lt : ∀ p ∈ ex ++ sup, p.1 < d) (lt2 : @LT.lt Nat _ d x) (h1 : nm.length ≤ 1) (h2 : PyData.strOk nm = true) (h3 : nm ≠ Str.ofString "u") :
    Ends g L' (ValueOut w a k) s₁ (.ref x) { s₁ with heap := h, toks := tk } := by
  refine Ends.intro (sup ++ [(x, instObj 67 d), (d, symD w t1 t2 t3 u1 u2 nm)]) F N (fun p hp => by simp only [List.mem_append, List.mem_cons] at hp ⊢; grind)
    ⟨sup, _, .sym nm, rfl, S, tboff_cons' (fun q hq => Nat.ne_of_lt (Nat.lt_trans (lt q (List.mem_append_right _ hq)) lt2)) (tboff_cons' (fun q hq => Nat.ne_of_lt (lt q (List.mem_append_right _ hq))) tboff_nil'), .sym (by k_mem) (by k_mem), .sym h1 h2 h3⟩
theorem vector_end {w : World} {a : Addr} {k : Nat} {g : Heap} {L' : Addr} {s₁ : Shared} {m : Str → Option Value} {h : Heap} {tk : Nat} {x d l : Addr} {t1 t2 t3 t4 t5 u1 u2 : Tok} {b : Bool} {n : Nat} {nm : Str} {ex sup : List (Addr × Obj)} (F : Fr g L' h m)
    (N : News g L' h ((x, instObj 46 d) :: (d, vecD w t1 t2 t3 t4 t5 u1 l b) :: (l, W.listOf [Value.str nm u2].toArray n) :: (ex ++ sup))) (S : Sup a sup) (lt : ∀ p ∈ ex ++ sup, p.1 < l) (lt1 : @LT.lt Nat _ l d) (lt2 : @LT.lt Nat _ d x) (h1 : nm.length ≤ 1) (h2 : PyData.strOk nm = true) :
    Ends g L' (ValueOut w a k) s₁ (.ref x) { s₁ with heap := h, toks := tk } := by
  refine Ends.intro (sup ++ [(x, instObj 46 d), (d, vecD w t1 t2 t3 t4 t5 u1 l b), (l, W.listOf (List.toArray [Value.str nm u2]) n)]) F N (fun p hp => by simp only [List.mem_append, List.mem_cons] at hp ⊢; grind)
    ⟨sup, _, .chr nm, rfl, S, tboff_cons' (fun q hq => Nat.ne_of_lt (Nat.lt_trans (lt q (List.mem_append_right _ hq)) (Nat.lt_trans lt1 lt2))) (tboff_cons' (fun q hq => Nat.ne_of_lt (Nat.lt_trans (lt q (List.mem_append_right _ hq)) lt1)) (tboff_cons' (fun q hq => Nat.ne_of_lt (lt q (List.mem_append_right _ hq))) tboff_nil')),
      .chr (by k_mem) (by k_mem) (by k_mem), .chr h1 h2⟩

theorem sub_perm {x y z : Addr × Obj} {A B C D : List (Addr × Obj)} : ∀ p ∈ (x :: y :: z :: (A ++ B ++ D)) ++ C, p ∈ x :: y :: z :: (A ++ B ++ (C ++ D)) := fun p hp => by
  simp only [List.cons_append, List.mem_append, List.mem_cons] at hp ⊢; grind
theorem sub_endA {x y z : Addr × Obj} {A B C D : List (Addr × Obj)} : ∀ p ∈ y :: z :: (D ++ (A ++ C)), p ∈ x :: y :: z :: (A ++ B ++ C ++ D) := fun p hp => by
  simp only [List.mem_append, List.mem_cons] at hp ⊢; grind
theorem sub_endB {x y z : Addr × Obj} {A B C D : List (Addr × Obj)} : ∀ p ∈ B, p ∈ x :: y :: z :: (A ++ B ++ C ++ D) := fun p hp => by
  simp only [List.mem_append, List.mem_cons]; grind
theorem call_end {w : World} {a : Addr} {k : Nat} {g : Heap} {L' : Addr} {s₁ : Shared} {m : Str → Option Value} {h : Heap} {tk : Nat} {x d lA lB : Addr} {t1 t2 t3 t4 t5 u1 : Tok} {n1 n2 : Nat} {us ws : List Value} {ts : List Tr} {tags : List (Option Str)} {sup trees : List (Addr × Obj)} (F : Fr g L' h m)
    (N : News g L' h ((x, instObj 89 d) :: (d, callD w t1 t2 t3 t4 t5 u1 lA lB) :: (lB, W.listOf ws.toArray n2) :: (lA, W.listOf us.toArray n1) :: (sup ++ trees))) (S : Sup a sup) (off : TbOff sup trees) (nA : ∀ p ∈ sup ++ trees, p.1 ≠ lA) (nB : ∀ p ∈ sup ++ trees, p.1 ≠ lB)
    (lt : @LT.lt Nat _ lB d ∧ @LT.lt Nat _ lA d ∧ AllLt d (sup ++ trees)) (lt2 : @LT.lt Nat _ d x) (l1 : us.length = ts.length) (hA : ∀ (j : Nat) v t, us[j]? = some v → ts[j]? = some t → At w trees v t) (hT : TagsAre ws tags) (l3 : tags.length = ts.length) (l4 : ts.length ≤ 4)
    (hOk : ∀ t ∈ ts, Tr.Ok k t) (hTok : ∀ x, some x ∈ tags → PyData.strOk x = true) : Ends g L' (ValueOut w a (k + 1)) s₁ (.ref x) { s₁ with heap := h, toks := tk } := by
  have hd : ∀ q ∈ sup, q.1 < d := fun q hq => tb_ltOf lt.2.2 q (List.mem_append_left _ hq)
  refine Ends.intro (sup ++ ((x, instObj 89 d) :: (d, callD w t1 t2 t3 t4 t5 u1 lA lB) :: (lB, W.listOf ws.toArray n2) :: (lA, W.listOf us.toArray n1) :: trees)) F N (fun p hp => by simp only [List.mem_append, List.mem_cons] at hp ⊢; grind)
    ⟨sup, _, .call ts tags, rfl, S, tboff_cons' (fun q hq => Nat.ne_of_lt (Nat.lt_trans (hd q hq) lt2)) (tboff_cons' (fun q hq => Nat.ne_of_lt (hd q hq)) (tboff_cons' (fun q hq => nB q (List.mem_append_left _ hq)) (tboff_cons' (fun q hq => nA q (List.mem_append_left _ hq)) off))),
      .call (by k_mem) (by k_mem) (by k_mem) (by k_mem) hT l1 (fun j v t e1 e2 => (hA j v t e1 e2).sub fun p hp => by k_mem), .call l4 l3 hTok hOk⟩

theorem value_step {w : World} {a : Addr} (k : Nat) (ih : ∀ k', k = k' + 1 → ∀ {tk : Tok} {news : List (Addr × Obj)}, Sup a news → Tell w 156 [.ref a, .int (k' : Int) tk] news (3 * k' + 6) (40 * k' + 80) (ValueOut w a k'))
    {tk : Tok} {news : List (Addr × Obj)} (S : Sup a news) : Tell w 156 [.ref a, .int (k : Int) tk] news (3 * k + 6) (40 * k + 80) (ValueOut w a k) := by
  refine tell_of (binds := [(Str.ofString "supply", .ref a), (Str.ofString "room_left", .int (k : Int) tk)]) (by k_is) (by k_is) (fun s => BindsTo.of_eq rfl) (locs rfl) rfl rfl rfl (by decide) ?_
  intro mean mg mb dp un gd cn cs L ad ccd cl outer base g L' s₁ B F X N lt T hd' hu
  k_steps
  unfold Halt
  refine tell_use [] news (one_tell S (by decide) (by decide)) B F X N (fun _ h => h) tboff_nil T rfl (by k_room) (by k_units) ?_
  rintro r news2 h2' tk2 F3 N3 - ⟨S2, i, t, rfl, hi0, hi4⟩
  simp only [List.nil_append] at N3
  clear N F
  obtain rfl | rfl | rfl | rfl : i = 0 ∨ i = 1 ∨ i = 2 ∨ i = 3 := by omega
  all_goals k_steps
  · unfold Halt
    rename Fr _ _ _ _ => F4
    rename News _ _ _ _ => N4
    refine tell_use news2 [] names_tell B F4 X N4 (fun p hp => by simpa using hp) tboff_nil' T rfl (by k_room) (by k_units) ?_
    rintro r news3 h3 tk3 F5 N5 off4 ⟨la, n, u1, u2, u3, u4, rfl, rfl⟩
    clear N4 F4
    k_steps
    unfold Halt
    rename Fr _ _ _ _ => F6
    rename News _ _ _ _ => N6
    refine tell_use [(la, W.listOf (List.toArray [Value.str (Str.ofString "p") u1, Value.str (Str.ofString "q") u2, Value.str (Str.ofString "r") u3, Value.str (Str.ofString "s") u4]) n)] news2 (one_tell S2 (by decide) (by decide)) B F6 X N6 (fun p hp => by simp only [List.mem_append] at hp ⊢; exact hp.symm) (tboff_symm off4) T rfl (by k_room) (by k_units) ?_
    rintro r news4 h4 tk4 F7 N7 off5 ⟨S4, j, tj, rfl, hj0, hj4⟩
    clear N6 F6
    obtain rfl | rfl | rfl | rfl : j = 0 ∨ j = 1 ∨ j = 2 ∨ j = 3 := by omega
    all_goals k_steps
    all_goals try dsimp only
    all_goals rename Fr _ _ _ _ => F9
    all_goals rename News _ _ _ _ => N9
    all_goals exact symbol_end F9 N9 S4 (by assumption) (by assumption) (by decide) (by decide +kernel) (by decide)
  · unfold Halt
    rename Fr _ _ _ _ => F4
    rename News _ _ _ _ => N4
    refine tell_use news2 [] names_tell B F4 X N4 (fun p hp => by simpa using hp) tboff_nil' T rfl (by k_room) (by k_units) ?_
    rintro r news3 h3 tk3 F5 N5 off4 ⟨la, n, u1, u2, u3, u4, rfl, rfl⟩
    clear N4 F4
    k_steps
    unfold Halt
    rename Fr _ _ _ _ => F6
    rename News _ _ _ _ => N6
    refine tell_use [(la, W.listOf (List.toArray [Value.str (Str.ofString "p") u1, Value.str (Str.ofString "q") u2, Value.str (Str.ofString "r") u3, Value.str (Str.ofString "s") u4]) n)] news2 (one_tell S2 (by decide) (by decide)) B F6 X N6 (fun p hp => by simp only [List.mem_append] at hp ⊢; exact hp.symm) (tboff_symm off4) T rfl (by k_room) (by k_units) ?_
    rintro r news4 h4 tk4 F7 N7 off5 ⟨S4, j, tj, rfl, hj0, hj4⟩
    clear N6 F6
    obtain rfl | rfl | rfl | rfl : j = 0 ∨ j = 1 ∨ j = 2 ∨ j = 3 := by omega
    all_goals k_steps
    all_goals try dsimp only
    all_goals rename Fr _ _ _ _ => F9
    all_goals rename News _ _ _ _ => N9
    all_goals exact symbol_end F9 N9 S4 (by assumption) (by assumption) (by decide) (by decide +kernel) (by decide)
  · unfold Halt
    rename Fr _ _ _ _ => F4
    rename News _ _ _ _ => N4
    rename (∀ p ∈ news2, _) => lt4
    refine tell_use [_] news2 (one_tell S2 (by decide) (by decide)) B F4 X N4 (fun p hp => hp) (tboff_cons (fun q hq => Nat.ne_of_lt (lt4 q hq)) tboff_nil) T rfl (by k_room) (by k_units) ?_
    rintro r news4 h4 tk4 F7 N7 off5 ⟨S4, j, tj, rfl, hj0, hj4⟩
    clear N4 F4
    obtain rfl | rfl | rfl : j = 0 ∨ j = 1 ∨ j = 2 := by omega
    all_goals k_steps
    all_goals try dsimp only
    all_goals rename Fr _ _ _ _ => F9
    all_goals rename News _ _ _ _ => N9
    all_goals rename (_ ∧ AllLt _ _) => q9
    all_goals exact vector_end F9 N9 S4 (by assumption) q9.1 (by assumption) (by decide) (by decide +kernel)
  · obtain ⟨k', hk'⟩ : ∃ k', k = k' + 1 := ⟨k - 1, by omega⟩
    subst hk'
    have e9 : ((k' + 1 : Nat) : Int) - 1 = (k' : Int) := by omega
    unfold Halt
    rename Fr _ _ _ _ => F4
    rename News _ _ _ _ => N4
    rw [e9]
    refine tell_use [] news2 (ih k' rfl S2) B F4 X N4 (fun p hp => hp) tboff_nil T rfl (by k_room) (by k_units) ?_
    rintro r news3 h3 tk3 F5 N5 - ⟨sup3, trees3, t3, rfl, S3, off3, A3, O3⟩
    simp only [List.nil_append] at N5
    clear N4 F4
    k_steps
    unfold Halt
    rename_i _ _ lA _ loA _ _ lB _ loB _ F6 N6
    have hAB : @LT.lt Nat _ lA lB := loB.1
    have hA3 : ∀ p ∈ sup3 ++ trees3, p.1 ≠ lA := fun p hp => Nat.ne_of_lt (loA p hp)
    have hB3 : ∀ p ∈ sup3 ++ trees3, p.1 ≠ lB := fun p hp => Nat.ne_of_lt (tb_ltOf loB.2 p hp)
    clear loA loB
    refine tell_use ((lB, W.listOf (List.toArray [Value.none]) 0) :: (lA, W.listOf (List.toArray [r]) 0) :: trees3) sup3 (one_tell S3 (by decide) (by decide)) B F6 X N6 (fun p hp => by simp only [List.cons_append, List.mem_append, List.mem_cons] at hp ⊢; grind)
      (tboff_cons (fun q hq => hB3 q (List.mem_append_left _ hq)) (tboff_cons (fun q hq => hA3 q (List.mem_append_left _ hq)) (tboff_symm off3))) T rfl (by k_room) (by k_units) ?_
    rintro r4 sup4 h4 tk4 F7 N7 off4 ⟨S4, i, ti, rfl, hi0', hi4'⟩
    simp only [List.cons_append] at N7
    obtain ⟨n, rfl⟩ : ∃ n : Nat, i = (n : Int) := ⟨i.toNat, by omega⟩
    have n4 : n < 4 := by omega
    clear N6 F6
    k_steps
    unfold Halt
    rename IsRange _ _ _ _ _ _ _ _ => R9
    rename Fr _ _ _ _ => F9
    rename News _ _ _ _ => N9
    refine range_loop (n := n) [] (fun i nx => ∃ us ws m1 m2 sup trees ts tags, nx = (lB, W.listOf (List.toArray ws) m2) :: (lA, W.listOf (List.toArray us) m1) :: (sup ++ trees) ∧ Sup a sup ∧ TbOff sup trees ∧ (∀ p ∈ sup ++ trees, p.1 ≠ lA) ∧ (∀ p ∈ sup ++ trees, p.1 ≠ lB) ∧
        us.length = i + 1 ∧ ts.length = i + 1 ∧ (∀ (j : Nat) v t, us[j]? = some v → ts[j]? = some t → At w trees v t) ∧ TagsAre ws tags ∧ tags.length = i + 1 ∧ (∀ t ∈ ts, Tr.Ok k' t) ∧ (∀ x, some x ∈ tags → PyData.strOk x = true))
      rfl R9 (small_one (by decide) (by decide) (by omega) (by omega)) (by rw [rangeSize_nat]; omega) F9 N9 ((lB, W.listOf (List.toArray [Value.none]) 0) :: (lA, W.listOf (List.toArray [r]) 0) :: (sup4 ++ trees3)) (fun p hp => by simp only [List.mem_append, List.mem_cons] at hp ⊢; grind)
      ⟨[r], [.none], 0, 0, sup4, trees3, [t3], [none], rfl, S4, tboff_symm (tboff_tail (tboff_tail off4)), fun p hp => (List.mem_append.mp hp).elim (tboff_head (tboff_tail off4) p) (fun h => hA3 p (List.mem_append_right _ h)), fun p hp => (List.mem_append.mp hp).elim (tboff_head off4 p) (fun h => hB3 p (List.mem_append_right _ h)),
        rfl, rfl, fun j v t e1 e2 => by cases j with | zero => (rw [List.getElem?_cons_zero] at e1 e2; cases e1; cases e2; exact A3) | succ j => (rw [List.getElem?_cons_succ] at e1; exact (nil_get e1).elim), .cons rfl .nil, rfl, fun t ht => by rw [List.mem_singleton.mp ht]; exact O3, fun x hx => by simp at hx⟩ ?_ ?_
    · rintro i tki u nx hh tk own hi offw ⟨us, ws, m1, m2, sup, trees, ts, tags, rfl, S5, off5, nA, nB, l1, l2, hAt, hT, l3, hOk, hTok⟩ F1 N1
      clear F9 N9 R9 F7 N7
      k_steps
      unfold Halt
      rename Fr _ _ _ _ => F2
      rename News _ _ _ _ => N2
      rw [e9]
      refine tell_use ((lB, W.listOf (List.toArray ws) m2) :: (lA, W.listOf (List.toArray us) m1) :: (trees ++ own)) sup (ih k' rfl S5) B F2 X N2 (fun p hp => by simp only [List.cons_append, List.mem_append, List.mem_cons] at hp ⊢; grind)
        (tboff_cons (fun q hq => nB q (List.mem_append_left _ hq)) (tboff_cons (fun q hq => nA q (List.mem_append_left _ hq)) (tboff_app (tboff_symm off5) (fun p hp q hq => offw p hp q (.tail _ (.tail _ (List.mem_append_left _ hq))))))) T rfl (by k_room) (by k_units) ?_
      rintro r5 news5 h5 tk5 F5' N5' off6 ⟨sup5, trees5, t5, rfl, S6, off7, A5, O5⟩
      simp only [List.cons_append] at N5'
      have qA : ∀ p ∈ trees ++ own ++ (sup5 ++ trees5), p.1 ≠ lA := fun p hp => by
        rcases List.mem_append.mp hp with hp | hp
        · rcases List.mem_append.mp hp with hp | hp
          · exact nA p (List.mem_append_right _ hp)
          · exact offw p hp _ (.tail _ (.head _))
        · exact tboff_head (tboff_tail off6) p hp
      have qB : ∀ p ∈ trees ++ own ++ (sup5 ++ trees5), p.1 ≠ lB := fun p hp => by
        rcases List.mem_append.mp hp with hp | hp
        · rcases List.mem_append.mp hp with hp | hp
          · exact nB p (List.mem_append_right _ hp)
          · exact offw p hp _ (.head _)
        · exact tboff_head off6 p hp
      have offT : TbOff (trees ++ own) (sup5 ++ trees5) := tboff_tail (tboff_tail off6)
      clear N2 F2
      k_steps
      unfold Halt
      rename Fr _ _ _ _ => F8
      rename News _ _ _ _ => N8
      rename (_ ∧ _ ∧ AllLt _ _) => q3
      refine tell_use ((_, _) :: (lB, W.listOf (List.toArray ws) m2) :: (lA, W.listOf (List.toArray (us ++ [r5])) (m1 + 1)) :: (trees ++ own ++ trees5)) sup5 (one_tell S6 (by decide) (by decide)) B F8 X N8 sub_perm
        (tboff_cons (fun q hq => Nat.ne_of_lt (tb_ltOf q3.2.2 q (List.mem_append_right _ (List.mem_append_left _ hq)))) (tboff_cons (fun q hq => qB q (List.mem_append_right _ (List.mem_append_left _ hq))) (tboff_cons (fun q hq => qA q (List.mem_append_right _ (List.mem_append_left _ hq))) (tboff_app (fun p hp q hq => offT p hp q (List.mem_append_left _ hq)) (tboff_symm off7))))) T rfl (by k_room) (by k_units) ?_
      rintro r6 sup6 h6 tk6 F6' N6' off8 ⟨S7, j, tj, rfl, hj0, hj3⟩
      simp only [List.cons_append] at N6'
      have zB : ∀ p ∈ trees ++ own ++ trees5 ++ sup6, p.1 ≠ lB := fun p hp => by
        rcases List.mem_append.mp hp with hp | hp
        · rcases List.mem_append.mp hp with hp | hp
          · exact qB p (List.mem_append_left _ hp)
          · exact qB p (List.mem_append_right _ (List.mem_append_right _ hp))
        · exact tboff_head (tboff_tail off8) p hp
      have zA : ∀ p ∈ trees ++ own ++ trees5 ++ sup6, p.1 ≠ lA := fun p hp => by
        rcases List.mem_append.mp hp with hp | hp
        · rcases List.mem_append.mp hp with hp | hp
          · exact qA p (List.mem_append_left _ hp)
          · exact qA p (List.mem_append_right _ (List.mem_append_right _ hp))
        · exact tboff_head (tboff_tail (tboff_tail off8)) p hp
      have l3B := q3.1
      have offU : TbOff (trees ++ own ++ trees5) sup6 := tboff_tail (tboff_tail (tboff_tail off8))
      have hwl := hT.length
      clear N8 F8
      have offN : ∀ {n2 n1 : Nat} {us ws : List Value}, TbOff own ((lB, W.listOf (List.toArray ws) n2) :: (lA, W.listOf (List.toArray us) n1) :: (sup6 ++ (trees ++ trees5))) :=
        tboff_cons' (fun q hq => offw q hq _ (.head _)) (tboff_cons' (fun q hq => offw q hq _ (.tail _ (.head _))) (tboff_app' (fun p hp q hq => offU p (List.mem_append_left _ (List.mem_append_right _ hp)) q hq)
          (tboff_app' (fun p hp q hq => offw p hp q (.tail _ (.tail _ (List.mem_append_right _ hq)))) (fun p hp q hq => offT p (List.mem_append_right _ hp) q (List.mem_append_right _ hq)))))
      have inU : ∀ p ∈ trees ++ trees5, p ∈ trees ++ own ++ trees5 := fun p hp => (List.mem_append.mp hp).elim (fun h => List.mem_append_left _ (List.mem_append_left _ h)) (fun h => List.mem_append_right _ h)
      have offST : TbOff sup6 (trees ++ trees5) := tboff_symm fun p hp q hq => offU p (inU p hp) q hq
      have nA' : ∀ p ∈ sup6 ++ (trees ++ trees5), p.1 ≠ lA := fun p hp => (List.mem_append.mp hp).elim (fun h => zA p (List.mem_append_right _ h)) (fun h => zA p (List.mem_append_left _ (inU p h)))
      have nB' : ∀ p ∈ sup6 ++ (trees ++ trees5), p.1 ≠ lB := fun p hp => (List.mem_append.mp hp).elim (fun h => zB p (List.mem_append_right _ h)) (fun h => zB p (List.mem_append_left _ (inU p h)))
      have hOk' : ∀ t ∈ ts ++ [t5], Tr.Ok k' t := fun t ht => (List.mem_append.mp ht).elim (hOk t) (fun h => by rw [List.mem_singleton.mp h]; exact O5)
      obtain rfl | rfl | rfl : j = 0 ∨ j = 1 ∨ j = 2 := by omega
      all_goals k_steps
      · rename Fr _ _ _ _ => F10
        rename News _ _ _ _ => N10
        exact tbEnd_of ((lB, W.listOf (List.toArray (ws ++ [_])) (m2 + 1)) :: (lA, W.listOf (List.toArray (us ++ [r5])) (m1 + 1)) :: (sup6 ++ (trees ++ trees5))) F10 N10 sub_endA sub_endB offN
          ⟨⟨us ++ [r5], ws ++ [_], _, _, sup6, trees ++ trees5, ts ++ [t5], tags ++ [none], rfl, S7, offST, nA', nB', by simp [l1], by simp [l2], snoc_both (by rw [l1, l2]) (fun j v t e1 e2 => (hAt j v t e1 e2).sub fun p hp => List.mem_append_left _ hp) (A5.sub fun p hp => List.mem_append_right _ hp),
            hT.append (.cons rfl .nil), by simp [l3], hOk', fun x hx => (List.mem_append.mp hx).elim (hTok x) (fun h => by simp at h)⟩, fun z z1 z2 => by simp [z1]⟩
      · rename Fr _ _ _ _ => F10
        rename News _ _ _ _ => N10
        exact tbEnd_of ((lB, W.listOf (List.toArray (ws ++ [_])) (m2 + 1)) :: (lA, W.listOf (List.toArray (us ++ [r5])) (m1 + 1)) :: (sup6 ++ (trees ++ trees5))) F10 N10 sub_endA sub_endB offN
          ⟨⟨us ++ [r5], ws ++ [_], _, _, sup6, trees ++ trees5, ts ++ [t5], tags ++ [some (Str.ofString "p")], rfl, S7, offST, nA', nB', by simp [l1], by simp [l2], snoc_both (by rw [l1, l2]) (fun j v t e1 e2 => (hAt j v t e1 e2).sub fun p hp => List.mem_append_left _ hp) (A5.sub fun p hp => List.mem_append_right _ hp),
            hT.append (.cons ⟨_, rfl⟩ .nil), by simp [l3], hOk', fun x hx => (List.mem_append.mp hx).elim (hTok x) (fun h => by simp at h; subst h; decide +kernel)⟩, fun z z1 z2 => by simp [z1]⟩
      · rename Fr _ _ _ _ => F10
        rename News _ _ _ _ => N10
        exact tbEnd_of ((lB, W.listOf (List.toArray (ws ++ [_])) (m2 + 1)) :: (lA, W.listOf (List.toArray (us ++ [r5])) (m1 + 1)) :: (sup6 ++ (trees ++ trees5))) F10 N10 sub_endA sub_endB offN
          ⟨⟨us ++ [r5], ws ++ [_], _, _, sup6, trees ++ trees5, ts ++ [t5], tags ++ [some (Str.ofString "n")], rfl, S7, offST, nA', nB', by simp [l1], by simp [l2], snoc_both (by rw [l1, l2]) (fun j v t e1 e2 => (hAt j v t e1 e2).sub fun p hp => List.mem_append_left _ hp) (A5.sub fun p hp => List.mem_append_right _ hp),
            hT.append (.cons ⟨_, rfl⟩ .nil), by simp [l3], hOk', fun x hx => (List.mem_append.mp hx).elim (hTok x) (fun h => by simp at h; subst h; decide +kernel)⟩, fun z z1 z2 => by simp [z1]⟩
    · rintro u nx hh tk ⟨us, ws, m1, m2, sup, trees, ts, tags, rfl, S5, off5, nA, nB, l1, l2, hAt, hT, l3, hOk, hTok⟩ F1 N1
      clear F9 N9 R9 F7 N7
      k_steps
      rename Fr _ _ _ _ => F2
      rename News _ _ _ _ => N2
      rename (_ ∧ _ ∧ AllLt _ _) => q3
      exact call_end F2 N2 S5 off5 nA nB q3 (by assumption) (by rw [l1, l2]) hAt hT (by rw [l3, l2]) (by omega) hOk hTok
  · unfold Halt
    rename Fr _ _ _ _ => F4
    rename News _ _ _ _ => N4
    refine tell_use news2 [] names_tell B F4 X N4 (fun p hp => by simpa using hp) tboff_nil' T rfl (by k_room) (by k_units) ?_
    rintro r news3 h3 tk3 F5 N5 off4 ⟨la, n, u1, u2, u3, u4, rfl, rfl⟩
    clear N4 F4
    k_steps
    unfold Halt
    rename Fr _ _ _ _ => F6
    rename News _ _ _ _ => N6
    refine tell_use [(la, W.listOf (List.toArray [Value.str (Str.ofString "p") u1, Value.str (Str.ofString "q") u2, Value.str (Str.ofString "r") u3, Value.str (Str.ofString "s") u4]) n)] news2 (one_tell S2 (by decide) (by decide)) B F6 X N6 (fun p hp => by simp only [List.mem_append] at hp ⊢; exact hp.symm) (tboff_symm off4) T rfl (by k_room) (by k_units) ?_
    rintro r news4 h4 tk4 F7 N7 off5 ⟨S4, j, tj, rfl, hj0, hj4⟩
    clear N6 F6
    obtain rfl | rfl | rfl | rfl : j = 0 ∨ j = 1 ∨ j = 2 ∨ j = 3 := by omega
    all_goals k_steps
    all_goals try dsimp only
    all_goals rename Fr _ _ _ _ => F9
    all_goals rename News _ _ _ _ => N9
    all_goals exact symbol_end F9 N9 S4 (by assumption) (by assumption) (by decide) (by decide +kernel) (by decide)

theorem value_tell {w : World} {a : Addr} : ∀ (k : Nat) {tk : Tok} {news : List (Addr × Obj)}, Sup a news → Tell w 156 [.ref a, .int (k : Int) tk] news (3 * k + 6) (40 * k + 80) (ValueOut w a k)
  | 0, _, _, S => value_step 0 (fun _ e => by omega) S
  | k + 1, _, _, S => value_step (k + 1) (fun k' e => by
      obtain rfl : k' = k := by omega
      exact fun {_ _} S => value_tell k' S) S
end Mine

set_option Elab.async false
set_option maxRecDepth 100000
namespace Mine
open PySem PySem.W PyProof.Rows PySem.Calls PySem.Spec
section
variable {prog : Program} {w : World} {A : Around} {E : Value → Shared → Prop} {s : Shared} {env : Env} {h₀ : Heap} {x : Str} {body : List Stmt} {Q : Flow → Shared → Prop}

theorem src_loop {I l : Addr} {ol : Obj} {n : Nat} {P : Nat → Value → Prop} {St : Nat → Heap → Prop} {m₀ : Str → Option Value} {nx₀ : List (Addr × Obj)} (stored : List Str) (J : Nat → List (Addr × Obj) → Prop)
    (W : Walks prog w A I [I, l] [I] n P St) (hst : St 0 s.heap) (hIo : ∀ i h, St i h → ∃ o, h.get? I = some o) (hlo : ∀ i h, St i h → h.get? l = some ol)
    (hLI : env.locals ≠ I) (hLl : env.locals ≠ l) (hI : h₀.get? I = none) (hl : h₀.get? l = none) (F : Fr h₀ env.locals s.heap m₀) (N : News h₀ env.locals s.heap nx₀) (oI : ∀ p ∈ nx₀, p.1 ≠ I) (ol' : ∀ p ∈ nx₀, p.1 ≠ l) (hj : J 0 nx₀)
    (turn : ∀ i v (u : Str → Option Value) nx h tk own, i < n → P i v → TbOff own nx → (l, ol) ∈ own → J i nx → Fr h₀ env.locals h (fun z => if z = x then some v else if stored.contains z then u z else m₀ z) → News h₀ env.locals h (nx ++ own) →
      wpAny (model prog w) A (execs body env) (TbPost h₀ env.locals (Kept x stored m₀ (J (i + 1))) own { s with heap := h, toks := tk } Q) E { s with heap := h, toks := tk })
    (done : ∀ (u : Str → Option Value) nx h tk, J n nx → Fr h₀ env.locals h (fun z => if z = x then u z else if stored.contains z then u z else m₀ z) → News h₀ env.locals h nx → Q .next { s with heap := h, toks := tk }) :
    LoopAtV prog w A h₀ env x body Q E (.ref I) s := by
  refine ⟨I, [I, l], [I], n, P, St, m₀, nx₀, fun i m nx => Kept x stored m₀ (J i) m nx ∧ ∀ p ∈ nx, p.1 ≠ l, rfl, W, ?_, ?_, ?_, hst, F, N, ⟨⟨hj, fun _ _ _ => rfl⟩, ol'⟩, ?_, ?_⟩
  · intro hm
    rcases List.mem_cons.mp hm with e | hm
    · exact hLI e
    · exact hLl (List.mem_singleton.mp hm)
  · intro b hb
    rw [List.mem_singleton.mp hb]; exact hI
  · intro p hp hq
    exact oI p hp (List.mem_singleton.mp hq)
  · rintro i v m₁ nx s₁ own ⟨hh', tk', rfl⟩ hin hP ⟨⟨hJ, hm⟩, nl⟩ hoff hown hat hmem hst' F₁ N₁
    obtain ⟨oi, hoi⟩ := hIo _ _ hst'
    have mI : (I, oi) ∈ own := hmem I (.head _) hI oi hoi
    have ml : (l, ol) ∈ own := hmem l (.tail _ (.head _)) hl ol (hlo _ _ hst')
    have hsep : TbOff own nx := by
      intro p hp q hq e
      rcases List.mem_cons.mp (hown p hp) with h1 | h1
      · exact hoff q hq (List.mem_singleton.mpr (by rw [← e, h1]))
      · exact nl q hq (by rw [← e, List.mem_singleton.mp h1])
    have N₂ : News h₀ env.locals hh' (nx ++ own) := fun p hp => N₁ p ((List.mem_append.mp hp).elim (fun h => List.mem_append.mpr (.inr h)) fun h => List.mem_append.mpr (.inl h))
    rw [map_eq stored hm] at F₁
    refine wpAny_mono (turn i v m₁ nx hh' tk' own hin hP hsep ml hJ F₁ N₂) (fun f s₂ p => ?_) fun _ _ e => e
    have fin : TbEnd h₀ env.locals (Kept x stored m₀ (J (i + 1))) own { s with heap := hh', toks := tk' } s₂ → LoopStepU h₀ env.locals [I] own (fun m nx => Kept x stored m₀ (J (i + 1)) m nx ∧ ∀ p ∈ nx, p.1 ≠ l) { s with heap := hh', toks := tk' } .next s₂ := by
      rintro ⟨h', tk, m', news', nx', e, F', N', hn, ho, ha, hk⟩
      refine ⟨rfl, h', tk, m', nx', e, F', fun p hp => N' p ((List.mem_append.mp hp).elim (ho p) (hn p)), fun p hp hq => ?_, hk, fun p hp e => ?_⟩
      · exact ha _ mI p hp (List.mem_singleton.mp hq).symm
      · exact ha _ ml p hp e.symm
    cases f with
    | ret v => exact .ret p
    | brk => exact .brk p
    | next => exact .next (fin p)
    | cont => exact .cont (fin p)
  · rintro h' tk m' nx' F' N' _ ⟨⟨hJ, hm⟩, _⟩
    rw [map_eq' stored hm] at F'
    exact done m' nx' h' tk hJ F' N'

theorem list_loop {l : Addr} {vs : List Value} {n₀ : Nat} {m₀ : Str → Option Value} {all nx₀ : List (Addr × Obj)} (stored : List Str) (J : Nat → List (Addr × Obj) → Prop)
    (hh : A.handled = none) (F : Fr h₀ env.locals s.heap m₀) (N : News h₀ env.locals s.heap all) (hm : (l, W.listOf vs.toArray n₀) ∈ all) (sub : ∀ p ∈ nx₀, p ∈ all) (ne : ∀ p ∈ nx₀, p.1 ≠ l) (hj : J 0 nx₀)
    (turn : ∀ i v (u : Str → Option Value) nx h tk own, vs[i]? = some v → TbOff own nx → (l, W.listOf vs.toArray n₀) ∈ own → J i nx → Fr h₀ env.locals h (fun z => if z = x then some v else if stored.contains z then u z else m₀ z) → News h₀ env.locals h (nx ++ own) →
      wpAny (model prog w) A (execs body env) (TbPost h₀ env.locals (Kept x stored m₀ (J (i + 1))) own { s with heap := h, toks := tk } Q) E { s with heap := h, toks := tk })
    (done : ∀ (u : Str → Option Value) nx h tk, J vs.length nx → Fr h₀ env.locals h (fun z => if z = x then u z else if stored.contains z then u z else m₀ z) → News h₀ env.locals h nx → Q .next { s with heap := h, toks := tk }) :
    wpAny (model prog w) A (pyIter (.ref l)) (fun it s₂ => LoopAtV prog w A h₀ env x body Q E it s₂) E s := by
  have hl := (N _ hm).1
  have hls : s.heap.IsList l vs.toArray := ⟨_, hl, rfl, _, rfl⟩
  have hlt : l < s.heap.objs.size := Heap.lt_size hl
  have hne : l ≠ s.heap.objs.size := Nat.ne_of_lt hlt
  refine wpAny_pyIter_list hls ?_
  have W0 := Walks.list (prog := prog) (w := w) hh s.heap.objs.size l hne vs.toArray
  have hlen : vs.toArray.size = vs.length := List.size_toArray ..
  rw [hlen] at W0
  have W1 : Walks prog w A s.heap.objs.size [s.heap.objs.size, l] [s.heap.objs.size] vs.length (fun i v => vs.toArray[i]? = some v) (fun i h => (h.IsListIter s.heap.objs.size l i ∧ h.IsList l vs.toArray) ∧ h.get? l = some (W.listOf vs.toArray n₀)) :=
    { sub := W0.sub
      frame := fun i h h' st hk => ⟨W0.frame i h h' st.1 hk, hk l (by simp) _ st.2⟩
      item := fun i s Q E hi st hQ => W0.item i s Q E hi st.1 fun v h' tk hP st' hk => hQ v h' tk hP ⟨st', hk l _ (by simpa using hne) st.2⟩ hk
      done := fun s Q E st hQ => W0.done s Q E st.1 hQ
      self := fun i s Q E st hQ => W0.self i s Q E st.1 hQ }
  refine src_loop (ol := W.listOf vs.toArray n₀) (nx₀ := nx₀) (m₀ := m₀) stored J W1 ⟨⟨⟨_, Heap.get?_push_size _ rfl, rfl, rfl⟩, ⟨_, Heap.get?_push_of_some _ hl, rfl, _, rfl⟩⟩, Heap.get?_push_of_some _ hl⟩ (fun i h st => let ⟨⟨o, e, _⟩, _⟩ := st.1; ⟨o, e⟩) (fun i h st => st.2)
    (Nat.ne_of_lt F.ns.lt) (Ne.symm (N _ hm).2.1) (next_is_new F) (N _ hm).2.2 (F.push _) (fun p hp => ⟨Heap.get?_push_of_some _ (N p (sub p hp)).1, (N p (sub p hp)).2⟩) (fun p hp => Nat.ne_of_lt (Heap.lt_size (N p (sub p hp)).1)) ne hj ?_ ?_
  · rintro i v u nx h tk own hi hP hoff hmem hJ F₁ N₁
    exact turn i v u nx h tk own (by simpa using hP) hoff hmem hJ F₁ N₁
  · rintro u nx h tk hJ F₁ N₁
    exact done u nx h tk hJ F₁ N₁

theorem dict_loop {d : Addr} {o : Obj} {kvs : List (Str × Value)} {m₀ : Str → Option Value} {all nx₀ : List (Addr × Obj)} (stored : List Str) (J : Nat → List (Addr × Obj) → Prop)
    (hh : A.handled = none) (F : Fr h₀ env.locals s.heap m₀) (N : News h₀ env.locals s.heap all) (hm : (d, o) ∈ all) (hd : o.IsDictOf (strKind prog w) kvs) (lo : (d == sysModules) = false) (sub : ∀ p ∈ nx₀, p ∈ all) (ne : ∀ p ∈ nx₀, p.1 ≠ d) (hj : J 0 nx₀)
    (turn : ∀ i k v t (u : Str → Option Value) nx h tk own, kvs[i]? = some (k, v) → TbOff own nx → (d, o) ∈ own → J i nx → Fr h₀ env.locals h (fun z => if z = x then some (.str k t) else if stored.contains z then u z else m₀ z) → News h₀ env.locals h (nx ++ own) →
      wpAny (model prog w) A (execs body env) (TbPost h₀ env.locals (Kept x stored m₀ (J (i + 1))) own { s with heap := h, toks := tk } Q) E { s with heap := h, toks := tk })
    (done : ∀ (u : Str → Option Value) nx h tk, J kvs.length nx → Fr h₀ env.locals h (fun z => if z = x then u z else if stored.contains z then u z else m₀ z) → News h₀ env.locals h nx → Q .next { s with heap := h, toks := tk }) :
    wpAny (model prog w) A (pyIter (.ref d)) (fun it s₂ => LoopAtV prog w A h₀ env x body Q E it s₂) E s := by
  obtain ⟨ep, ha⟩ := KdkAt.of hd
  have hl := (N _ hm).1
  have hlt : d < s.heap.objs.size := Heap.lt_size hl
  have hne : d ≠ s.heap.objs.size := Nat.ne_of_lt hlt
  refine wpAny_pyIter_dict lo (ha.dictAt hl) ?_
  have W0 := Walks.dictKeys (prog := prog) (w := w) (knd := strKind prog w) hh s.heap.objs.size d hne kvs ep
  have W1 : Walks prog w A s.heap.objs.size [s.heap.objs.size, d] [s.heap.objs.size] kvs.length (fun i v => ∃ k x, kvs[i]? = some (k, x) ∧ (strKind prog w).is k v = true) (fun i h => (h.IsKeyIter s.heap.objs.size d i kvs.length ep ∧ h.DictAt (strKind prog w) d kvs ep) ∧ h.get? d = some o) :=
    { sub := W0.sub
      frame := fun i h h' st hk => ⟨W0.frame i h h' st.1 hk, hk d (by simp) _ st.2⟩
      item := fun i s Q E hi st hQ => W0.item i s Q E hi st.1 fun v h' tk hP st' hk => hQ v h' tk hP ⟨st', hk d _ (by simpa using hne) st.2⟩ hk
      done := fun s Q E st hQ => W0.done s Q E st.1 hQ
      self := fun i s Q E st hQ => W0.self i s Q E st.1 hQ }
  refine src_loop (ol := o) (nx₀ := nx₀) (m₀ := m₀) stored J W1 ⟨⟨⟨_, Heap.get?_push_size _ rfl, rfl, rfl⟩, ha.dictAt (Heap.get?_push_of_some _ hl)⟩, Heap.get?_push_of_some _ hl⟩ (fun i h st => let ⟨⟨o, e, _⟩, _⟩ := st.1; ⟨o, e⟩) (fun i h st => st.2)
    (Nat.ne_of_lt F.ns.lt) (Ne.symm (N _ hm).2.1) (next_is_new F) (N _ hm).2.2 (F.push _) (fun p hp => ⟨Heap.get?_push_of_some _ (N p (sub p hp)).1, (N p (sub p hp)).2⟩) (fun p hp => Nat.ne_of_lt (Heap.lt_size (N p (sub p hp)).1)) ne hj ?_ ?_
  · rintro i v u nx h tk own hi ⟨k, y, hx, hk⟩ hoff hmem hJ F₁ N₁
    obtain ⟨t, rfl⟩ := PySem.Value.isStrOf_shape hk
    exact turn i k y t u nx h tk own hx hoff hmem hJ F₁ N₁
  · rintro u nx h tk hJ F₁ N₁
    exact done u nx h tk hJ F₁ N₁
end

theorem valueAt_stored {kvs : List (Str × Value)} {k : Str} {v : Value} (x : Str) : valueAt (PySem.stored kvs k v) x = if x = k then some v else valueAt kvs x := by
  unfold PySem.stored
  split
  · rename_i h
    induction kvs with
    | nil => simp at h
    | cons kv r ih =>
      unfold valueAt at ih ⊢
      simp only [List.map_cons, List.find?_cons]
      by_cases h1 : kv.1 = k
      · rw [if_pos h1]
        by_cases h2 : x = k
        · subst h2; simp [h1]
        · rw [if_neg h2]
          have : decide (kv.1 = x) = false := by simp [h1]; exact fun e => h2 e.symm
          simp only [this]
          by_cases h3 : (r.any fun kv => decide (kv.1 = k)) = true
          · rw [ih h3, if_neg h2]
          · have hk : k ∉ r.map (·.1) := fun hm => h3 (by
              obtain ⟨q, hq, e⟩ := List.mem_map.mp hm
              exact List.any_eq_true.mpr ⟨q, hq, by simp [e]⟩)
            rw [map_store_of_not_mem r k v hk]
      · rw [if_neg h1]
        have h3 : (r.any fun kv => decide (kv.1 = k)) = true := by simpa [h1] using h
        by_cases h4 : kv.1 = x
        · have : ¬ x = k := fun e => h1 (h4.trans e)
          simp [h4, this]
        · simp only [h4, decide_false]
          exact ih h3
  · rename_i h
    unfold valueAt
    rw [List.find?_append]
    by_cases h2 : x = k
    · subst h2
      have : kvs.find? (fun kv => decide (kv.1 = x)) = none := List.find?_eq_none.mpr fun q hq e => h (List.any_eq_true.mpr ⟨q, hq, e⟩)
      simp [this]
    · rw [if_neg h2]
      cases e : kvs.find? (fun kv => decide (kv.1 = x)) with
      | none => simp; exact fun e => h2 e.symm
      | some q => simp
end Mine
namespace Mine
open PySem PySem.W PyProof.Rows PySem.Calls PySem.Spec
theorem tab_set {w : World} {A : Around} {E : Value → Shared → Prop} {s : Shared} {h₀ : Heap} {L : Addr} {all : List (Addr × Obj)} {m : Str → Option Value} {d : Addr} {o : Obj} {g : Obj → List (Addr × Obj)} {kvs : List (Str × Value)} {x : Str} {t : Tok} {v : Value} {Q : Unit → Shared → Prop}
    (F : Fr h₀ L s.heap m) (N : News h₀ L s.heap all) (U : UpdF d o all g) (hd : o.IsDictOf (strKind Pg w) kvs) (hz : kvs.length < 1000000)
    (h : ∀ h' o', Fr h₀ L h' m → News h₀ L h' (g o') → o'.IsDictOf (strKind Pg w) (PySem.stored kvs x v) → Q () { s with heap := h', toks := s.toks + 1 }) : wpAny (model Pg w) A (setItem (.ref d) (.str x t) v) Q E s :=
  kda_set F N U hd (strKind_is _ _ _ _) (by rw [sizeLine_eq]; omega) h
theorem TabOk.stored {w : World} {news : List (Addr × Obj)} {kvs : List (Str × Value)} {σ : Str → Option Tr} {k : Str} {v : Value} {t : Tr} (h : TabOk w news kvs σ) (hA : At w news v t) : TabOk w news (PySem.stored kvs k v) (fun x => if x = k then Option.some t else σ x) := by
  intro x
  have := h x
  rw [valueAt_stored]
  by_cases hx : x = k
  · simp only [if_pos hx]; exact hA
  · simp only [if_neg hx]; exact this
theorem TabOk.empty {w : World} {news : List (Addr × Obj)} : TabOk w news [] (fun _ => Option.none) := fun _ => trivial
theorem TabOk.sub {w : World} {news news' : List (Addr × Obj)} {kvs : List (Str × Value)} {σ : Str → Option Tr} (h : TabOk w news kvs σ) (k : Sub news news') : TabOk w news' kvs σ := h.step k.step
end Mine
open PySem PySem.W PyProof.Rows PySem.Calls
local macro_rules | `(tactic| walk_at "setItem ref str") => `(tactic| (k_here; refine' Mine.tab_set ?F ?N ?U ?d ?z ?_; (case F => k_asm); (case N => k_asm); (case U => k_updF); (case d => assumption); (case z => omega); intro h' o' F' N' hd'; (try dsimp only at N')))

set_option Elab.async false
set_option maxRecDepth 100000
set_option maxHeartbeats 4000000
namespace Mine
open PySem PySem.W PyProof.Rows PySem.Calls
example : (fun (_ : OpenLaw) (_ : Params → Frag) => True) PySem.Challenge.rw_ov0041_01 hd.heap_39 := by w_top off; k_fill; trivial

abbrev TableOut (w : World) (a : Addr) (r : Value) (news' : List (Addr × Obj)) : Prop := ∃ sup rest σ, news' = sup ++ rest ∧ Sup a sup ∧ TbOff sup rest ∧ TabOn 4 w rest σ r ∧ ∀ x t, σ x = some t → Tr.Ok 2 t
theorem sub_t1 {x : Addr × Obj} {A B C D : List (Addr × Obj)} : ∀ p ∈ x :: (C ++ (A ++ D)), p ∈ x :: (A ++ B ++ (C ++ D)) := fun p hp => by
  simp only [List.mem_append, List.mem_cons] at hp ⊢; grind
theorem sub_t2 {x : Addr × Obj} {A B C D : List (Addr × Obj)} : ∀ p ∈ B, p ∈ x :: (A ++ B ++ (C ++ D)) := fun p hp => by
  simp only [List.mem_append, List.mem_cons]; grind
theorem table_tell {w : World} {a : Addr} {news : List (Addr × Obj)} (S : Sup a news) : Tell w 163 [.ref a] news 16 220 (TableOut w a) := by
  refine tell_of (binds := [(Str.ofString "supply", .ref a)]) (by k_is) (by k_is) (fun s => BindsTo.of_eq rfl) (locs rfl) rfl rfl rfl (by decide) ?_
  intro mean mg mb dp un gd cn cs L ad ccd cl outer base g L' s₁ B F X N lt T hd' hu
  k_steps
  unfold Halt
  rename_i d _ o l1 lo hs fs hi fi _ F4 N4
  clear fs hi fi
  have nd : ∀ p ∈ news, p.1 ≠ d := fun p hp => Nat.ne_of_lt (l1 p hp)
  refine tell_use ((d, o) :: news) [] names_tell B F4 X N4 (fun p hp => by simpa using hp) tboff_nil' T rfl (by k_room) (by k_units) ?_
  rintro r news3 h3 tk3 F5 N5 off4 ⟨la, n, u1, u2, u3, u4, rfl, rfl⟩
  clear N4 F4
  k_steps
  unfold Halt
  rename Fr _ _ _ _ => F6
  rename News _ _ _ _ => N6
  refine list_loop [] (fun i nx => ∃ o kvs sup trees σ, nx = (d, o) :: (sup ++ trees) ∧ Sup a sup ∧ TbOff sup trees ∧ (∀ p ∈ sup ++ trees, p.1 ≠ d) ∧ o.IsDictOf (strKind Pg w) kvs ∧ kvs.length ≤ i ∧ TabOk w trees kvs σ ∧ ∀ x t, σ x = some t → Tr.Ok 2 t)
    rfl F6 N6 (List.mem_append_right _ (.head _)) (nx₀ := (d, o) :: news) (fun p hp => List.mem_append_left _ hp) (fun p hp => tboff_head' off4 p hp)
    ⟨o, [], news, [], fun _ => none, by rw [List.append_nil], S, tboff_nil', fun p hp => nd p (by simpa using hp), hs, Nat.le_refl _, TabOk.empty, nofun⟩ ?_ ?_
  · rintro i v u nx h tk own hv hoff hmem ⟨o2, kvs, sup, trees, σ, rfl, S2, off2, nd2, hd2, hl2, hT2, hOk2⟩ F7 N7
    obtain ⟨nm, tn, rfl⟩ : ∃ nm t, v = .str nm t := by
      rcases i with _ | _ | _ | _ | i
      · cases hv; exact ⟨_, _, rfl⟩
      · cases hv; exact ⟨_, _, rfl⟩
      · cases hv; exact ⟨_, _, rfl⟩
      · cases hv; exact ⟨_, _, rfl⟩
      · exact (nil_get (j := i) (v := v) (by simp at hv)).elim
    have hi4 : i < 4 := (List.getElem?_eq_some_iff.mp hv).1
    clear F6 N6 hs
    k_steps
    unfold Halt
    rename Fr _ _ _ _ => F8
    rename News _ _ _ _ => N8
    refine tell_use ((d, o2) :: (trees ++ own)) sup (one_tell S2 (by decide) (by decide)) B F8 X N8 (fun p hp => by simp only [List.cons_append, List.mem_append, List.mem_cons] at hp ⊢; grind)
      (tboff_cons (fun q hq => nd2 q (List.mem_append_left _ hq)) (tboff_app (tboff_symm off2) (fun p hp q hq => hoff p hp q (.tail _ (List.mem_append_left _ hq))))) T rfl (by k_room) (by k_units) ?_
    rintro r4 sup4 h4 tk4 F9 N9 off5 ⟨S4, j, tj, rfl, hj0, hj2⟩
    simp only [List.cons_append] at N9
    have nd4 : ∀ p ∈ sup4, p.1 ≠ d := tboff_head off5
    have off6 : TbOff (trees ++ own) sup4 := tboff_tail off5
    clear N8 F8
    obtain rfl | rfl : j = 0 ∨ j = 1 := by omega
    · k_steps
      rename Fr _ _ _ _ => F10
      rename News _ _ _ _ => N10
      refine tbEnd_of ((d, o2) :: (sup4 ++ trees)) F10 N10 (fun p hp => by simp only [List.mem_append, List.mem_cons] at hp ⊢; grind) (fun p hp => by simp only [List.mem_append, List.mem_cons]; grind)
        (tboff_cons' (fun q hq => hoff q hq _ (.head _)) (tboff_app' (fun p hp => off6 p (List.mem_append_right _ hp)) (fun p hp q hq => hoff p hp q (.tail _ (List.mem_append_right _ hq)))))
        ⟨⟨o2, kvs, sup4, trees, σ, rfl, S4, tboff_symm (fun p hp => off6 p (List.mem_append_left _ hp)), fun p hp => (List.mem_append.mp hp).elim (nd4 p) (fun h => nd2 p (List.mem_append_right _ h)), hd2, by omega, hT2, hOk2⟩, fun z z1 z2 => by simp [z1]⟩
    · k_steps
      unfold Halt
      rename Fr _ _ _ _ => F10
      rename News _ _ _ _ => N10
      refine tell_use ((d, o2) :: (trees ++ own)) sup4 (value_tell 2 S4) B F10 X N10 (fun p hp => hp) off5 T rfl (by k_room) (by k_units) ?_
      rintro r5 news5 h5 tk5 F11 N11 off7 ⟨sup5, trees5, t5, rfl, S5, off8, A5, O5⟩
      simp only [List.cons_append] at N11
      have nd5 : ∀ p ∈ trees ++ own ++ (sup5 ++ trees5), p.1 ≠ d := fun p hp => by
        rcases List.mem_append.mp hp with hp | hp
        · rcases List.mem_append.mp hp with hp | hp
          · exact nd2 p (List.mem_append_right _ hp)
          · exact hoff p hp _ (.head _)
        · exact tboff_head off7 p hp
      clear N10 F10
      k_steps
      rename Fr _ _ _ _ => F12
      rename News _ _ _ _ => N12
      rename (Obj.IsDictOf _ _ (PySem.stored _ _ _)) => hd3
      have hl3 := stored_length_le kvs nm r5
      refine tbEnd_of ((d, _) :: (sup5 ++ (trees ++ trees5))) F12 N12 sub_t1 sub_t2
        (tboff_cons' (fun q hq => hoff q hq _ (.head _)) (tboff_app' (fun p hp q hq => off7 p (.tail _ (List.mem_append_right _ hp)) q (List.mem_append_left _ hq)) (tboff_app' (fun p hp q hq => hoff p hp q (.tail _ (List.mem_append_right _ hq))) (fun p hp q hq => off7 p (.tail _ (List.mem_append_right _ hp)) q (List.mem_append_right _ hq)))))
        ⟨⟨_, _, sup5, trees ++ trees5, fun x => if x = nm then some t5 else σ x, rfl, S5, tboff_app' (tboff_symm fun p hp q hq => off7 p (.tail _ (List.mem_append_left _ hp)) q (List.mem_append_left _ hq)) off8, fun p hp => ?_, hd3, by omega,
          (hT2.sub fun p hp => List.mem_append_left _ hp).stored (A5.sub fun p hp => List.mem_append_right _ hp), fun x t e => ?_⟩, fun z z1 z2 => by simp [z1]⟩
      · rcases List.mem_append.mp hp with hp | hp
        · exact nd5 p (List.mem_append_right _ (List.mem_append_left _ hp))
        · rcases List.mem_append.mp hp with hp | hp
          · exact nd5 p (List.mem_append_left _ (List.mem_append_left _ hp))
          · exact nd5 p (List.mem_append_right _ (List.mem_append_right _ hp))
      · by_cases hx : x = nm
        · simp only [if_pos hx] at e; cases e; exact O5
        · simp only [if_neg hx] at e; exact hOk2 x t e
  · rintro u nx h tk ⟨o2, kvs, sup, trees, σ, rfl, S2, off2, nd2, hd2, hl2, hT2, hOk2⟩ F7 N7
    clear F6 N6
    k_steps
    dsimp only
    refine Ends.intro (sup ++ ((d, o2) :: trees)) F7 N7 (fun p hp => by simp only [List.mem_append, List.mem_cons] at hp ⊢; grind) ⟨sup, _, σ, rfl, S2, tboff_cons' (fun q hq => nd2 q (List.mem_append_left _ hq)) off2, .mk (.head _) lo hd2 (by simp only [List.length_cons, List.length_nil] at hl2; omega) (hT2.sub fun p hp => .tail _ hp), hOk2⟩
end Mine

set_option Elab.async false
set_option maxRecDepth 100000
set_option maxHeartbeats 4000000
namespace Mine
open PySem PySem.W PyProof.Rows PySem.Calls
example : (fun (_ : OpenLaw) (_ : Params → Frag) => True) PySem.Challenge.rw_ov0041_01 hd.heap_39 := by w_top off; k_fill; trivial

/-- as Tell, of a heap that bears a list -/
def TellL (w : World) (sc : Addr) (items : Array Value) (f : Addr) (vs : List Value) (D U : Nat) (Out : Value → List (Addr × Obj) → Prop) : Prop :=
  ∀ (mean : ExcName → Option Value) (mg mb : Str → Option Value) (dp un : Nat) (gd : Option (List Code)) (cn : Str) (cs : Scope) (a : Addr) (ccd : Value) (cl : List (Str × Addr)) (outer : List Env) (A₀ : Around) (base h₀ : Heap) (L : Addr) (m : Str → Option Value) (keep : List (Addr × Obj)) (s : Shared) (Q E : Value → Shared → Prop),
    Below A₀ base outer h₀ → Fr h₀ L s.heap m → (hd.heap_39 w.params).In h₀ → News h₀ L s.heap keep → h₀.IsList sc items → Top hd.view_39 (looseW hd.view_39 []) mean mg mb h₀ → cs.kind = .function →
    dp + D < recursionLimit → un + U < cLine →
    (∀ r news' h' tk', Fr h₀ L h' m → News h₀ L h' (keep ++ news') → TbOff keep news' → Out r news' → Q r { s with heap := h', toks := tk' }) →
    wpAny (model Pg w) (ktrTop dp un gd cn cs L a ccd cl outer) (call (.ref f) vs) Q E s

theorem tell_ofL {w : World} {sc : Addr} {items : Array Value} {f : Addr} {vs : List Value} {D U : Nat} {Out : Value → List (Addr × Obj) → Prop}
    {name qual : Str} {params : Arguments} {body : List Stmt} {scope : Scope} {dV kV doc pm cdv ct oc : Value} {an od : Option Addr} {osl : Array (Option Value)} {binds : List (Str × Value)}
    (ho : (hd.heap_39 w.params).lookup f = some ⟨oc, od, .func (fnOf name qual params body scope dV kV doc pm an cdv ct), osl⟩) (hcd : codeIn (hd.heap_39 w.params) cdv qual = true)
    (hbind : ∀ s, BindsTo s (fnOf name qual params body scope dV kV doc pm an cdv ct) ⟨vs, []⟩ binds) (hloc : ∀ y ∈ binds, scope.names.lookup y.1 = some .local)
    (hco : scope.isCoroutine = false) (hgen : scope.isGenerator = false) (hk : scope.kind = .function) (hcell : ∀ x ∈ scope.names, x.2 ≠ .cell)
    (h : ∀ (mean : ExcName → Option Value) (mg mb : Str → Option Value) (dp un : Nat) (gd : Option (List Code)) (cn : Str) (cs : Scope) (L a : Addr) (ccd : Value) (cl : List (Str × Addr)) (outer : List Env) (base g : Heap) (L' : Addr) (s₁ : Shared),
      Below (ktrTop dp un gd cn cs L a ccd cl outer) base (envX cn cs L a ccd cl :: outer) g → Fr g L' s₁.heap (fun y => binds.reverse.lookup y) → (hd.heap_39 w.params).In g → News g L' s₁.heap [] → g.IsList sc items →
      Top hd.view_39 (looseW hd.view_39 []) mean mg mb g → dp + D < recursionLimit → un + U < cLine →
      wpAny (model Pg w) ((ktrTop dp un gd cn cs L a ccd cl outer).deeper (envOf qual scope L' f cdv)) (execs body (envOf qual scope L' f cdv))
        (fun fl s' => Ends g L' Out s₁ (match fl with | .ret v => v | _ => .none) s') (fun _ _ => False) s₁) : TellL w sc items f vs D U Out := by
  intro mean mg mb dp un gd cn cs a ccd cl outer A₀ base h₀ L m keep s Q E B F X N IL T hke hd' hu ret
  have X' : (hd.heap_39 w.params).In s.heap := X.keeps F.keep
  have N0 : News h₀ L s.heap [] := fun _ hp => nomatch hp
  obtain ⟨FG, BG, st, _⟩ := groundX (R := fun _ _ => True) (A := ktrTop dp un gd cn cs L a ccd cl outer) (env := envX cn cs L a ccd cl) (outer := outer) B F N0 rfl rfl hke
  obtain ⟨oL, es, ep, hL, hLd, hLk, hLf⟩ := F.ns
  refine wpAny_call (codeAny_call_def (fd := fnOf name qual params body scope dV kV doc pm an cdv ct) (body := body) (binds := binds) (by show dp < recursionLimit; omega) (X' _ _ ho) rfl (T.nolimit.keeps F.keep) (codeRec_of X' hcd) rfl (hbind s) hcell hloc (fun h₁ hns hk₁ => ?_) hco hgen hk)
  have F1 : Fr s.heap s.heap.objs.size h₁ (fun y => binds.reverse.lookup y) := ⟨hns, fun b o e => hk₁ b o e, Nat.le_refl _⟩
  have IL' : s.heap.IsList sc items := IL.at fun o e => F.keep _ o e
  refine wpAny_mono (h mean mg mb dp un gd cn cs L a ccd cl outer base s.heap s.heap.objs.size { s with heap := h₁, toks := s.toks + binds.length } BG F1 (X.keeps F.keep) (fun _ hp => nomatch hp) IL' (T.keeps F.keep) hd' hu) (fun fl s' hl => ?_) fun _ _ y => y.elim
  obtain ⟨m', news', h', tk', e, F', N', out⟩ := hl
  subst e
  have kg : ∀ p ∈ keep, s.heap.get? p.1 = some p.2 := fun p hp => (N p hp).1
  refine ret _ news' h' tk' ⟨⟨oL, es, ep, F'.keep L oL hL, hLd, hLk, hLf⟩, fun b o e => F'.keep b o (F.keep b o e), F.above⟩ (fun p hp => ?_) (fun p hp q hq e => ?_) out
  · rcases List.mem_append.mp hp with hp | hp
    · exact ⟨F'.keep _ _ (kg p hp), (N p hp).2⟩
    · refine ⟨(N' p hp).1, fun q => ?_, ?_⟩
      · have := (N' p hp).2.2; rw [q, hL] at this; cases this
      · cases q : h₀.get? p.1 with
        | none => rfl
        | some o => have := (N' p hp).2.2; rw [F.keep _ _ q] at this; cases this
  · have := (N' q hq).2.2; rw [← e, kg p hp] at this; cases this

section
variable {prog : Program} {w : World} {A : Around} {E : Value → Shared → Prop} {s : Shared} {env : Env} {h₀ : Heap} {x : Str} {body : List Stmt} {Q : Flow → Shared → Prop}
theorem range_loop_int {r : Addr} {b₀ : Int} {t₀ u₀ v₀ : Tok} {n : Nat} {m₀ : Str → Option Value} {news : List (Addr × Obj)} (y : Str) (J : Nat → List (Addr × Obj) → Prop)
    (hh : A.handled = none) (hr : IsRange s.heap r 0 b₀ 1 t₀ u₀ v₀) (hsmall : Builtin.Range.small 0 b₀ 1 = true) (hn : Builtin.Range.rangeSize 0 b₀ 1 = (n : Int)) (F : Fr h₀ env.locals s.heap m₀) (N : News h₀ env.locals s.heap news) (hj : J 0 news) (hy : ∃ a t, m₀ y = some (.int a t))
    (turn : ∀ i t a ta nx h tk own, i < n → TbOff own nx → J i nx → Fr h₀ env.locals h (fun z => if z = x then some (.int (i : Int) t) else if z = y then some (.int a ta) else m₀ z) → News h₀ env.locals h (nx ++ own) →
      wpAny (model prog w) A (execs body env) (TbPost h₀ env.locals (fun m' nx' => J (i + 1) nx' ∧ (∃ a t, m' y = some (.int a t)) ∧ ∀ z, z ≠ x → z ≠ y → m' z = m₀ z) own { s with heap := h, toks := tk } Q) E { s with heap := h, toks := tk })
    (done : ∀ (u : Str → Option Value) a ta nx h tk, J n nx → Fr h₀ env.locals h (fun z => if z = x then u z else if z = y then some (.int a ta) else m₀ z) → News h₀ env.locals h nx → Q .next { s with heap := h, toks := tk }) :
    wpAny (model prog w) A (pyIter (.ref r)) (fun it s₂ => LoopAtV prog w A h₀ env x body Q E it s₂) E s := by
  refine tbr_invG (fun i m nx => J i nx ∧ (∃ a t, m y = some (.int a t)) ∧ ∀ z, z ≠ x → z ≠ y → m z = m₀ z) hh hr hsmall hn F N ⟨hj, hy, fun _ _ _ => rfl⟩ ?_ ?_
  · rintro i k t m₁ nx h tk own hk off ⟨hJ, ⟨a, ta, ha⟩, hm⟩ F₁ N₁
    have hb := mem_rangeKs (List.mem_of_getElem? hk)
    have hi : i < n ∧ k = (i : Int) := by
      unfold rangeKs at hk
      rw [List.getElem?_map] at hk
      cases q : (List.range n)[i]? with
      | none => rw [q] at hk; cases hk
      | some j =>
        rw [q] at hk
        obtain ⟨hlt, hj⟩ := List.getElem?_eq_some_iff.mp q
        simp only [List.length_range] at hlt
        simp only [List.getElem_range] at hj
        subst hj
        simp only [Option.map_some, Option.some.injEq] at hk
        exact ⟨hlt, by omega⟩
    obtain ⟨hi, rfl⟩ := hi
    have e : (fun z => if z = x then some (Value.int (i : Int) t) else m₁ z) = fun z => if z = x then some (Value.int (i : Int) t) else if z = y then some (.int a ta) else m₀ z := by
      funext z
      by_cases h1 : z = x
      · simp [h1]
      · simp only [if_neg h1]
        by_cases h2 : z = y
        · subst h2; simp [ha]
        · simp only [if_neg h2]; exact hm z h1 h2
    rw [e] at F₁
    exact turn i t a ta nx h tk own hi off hJ F₁ N₁
  · rintro m₁ nx h tk ⟨hJ, ⟨a, ta, ha⟩, hm⟩ F₁ N₁
    refine done m₁ a ta nx h tk hJ ?_ N₁
    have e : (fun z => if z = x then m₁ z else if z = y then some (.int a ta) else m₀ z) = m₁ := by
      funext z
      by_cases h1 : z = x
      · simp [h1]
      · simp only [if_neg h1]
        by_cases h2 : z = y
        · subst h2; simp [ha]
        · simp only [if_neg h2]; exact (hm z h1 h2).symm
    rw [e]; exact F₁
end

local macro_rules | `(tactic| walk_at "exec For Name Subscript cons nil") => `(tactic| (k_here; (with_reducible rename Fr _ _ _ _ => lF'); (with_unfolding_all refine' For_invVF lF' ?k1 ?k2 ?_; (case k1 => exact rfl); (case k2 => exact rfl); k_whole)))
theorem ints_item {ws : List Value} {ks : List Int} (h : IntsAre ws ks) : ∀ {i : Nat} {v : Value}, ws[i]? = some v → ∃ c t, v = .int c t := by
  induction h with
  | nil => intro i v e; exact (nil_get e).elim
  | cons k t r ih =>
    intro i v e
    cases i with
    | zero => rw [List.getElem?_cons_zero] at e; cases e; exact ⟨_, _, rfl⟩
    | succ i => rw [List.getElem?_cons_succ] at e; exact ih e
theorem ints_snoc {ws : List Value} {ks : List Int} (h : IntsAre ws ks) (c : Int) (t : Tok) : IntsAre (ws ++ [.int c t]) (ks ++ [c]) := by
  induction h with
  | nil => exact .cons _ _ .nil
  | cons k t r ih => exact .cons _ _ ih
theorem supply_tell {w : World} {sc : Addr} {vs : List Value} {ns : List Int} (hI : IntsAre vs ns) (hlen : vs.length ≤ 63) : TellL w sc vs.toArray 135 [.ref sc] 2 40 (fun r news' => ∃ a, r = .ref a ∧ Sup a news') := by
  refine tell_ofL (binds := [(Str.ofString "script", .ref sc)]) (by k_is) (by k_is) (fun s => BindsTo.of_eq rfl) (locs rfl) rfl rfl rfl (by decide) ?_
  intro mean mg mb dp un gd cn cs L ad ccd cl outer base g L' s₁ B F X N IL T hd' hu
  k_steps
  unfold Halt
  dsimp only
  rename_i d _ _ _ D ws _ F4 N4 hI4 hC4 hL4 l4
  have hw4 := hI4.length
  refine list_loop [Str.ofString "amount", Str.ofString "lap"] (fun i nx => ∃ us n ks, nx = [(d, W.listOf (List.toArray us) n)] ∧ IntsAre us ks ∧ us.length ≤ 8 * i)
    rfl F4 N4 (.head _) (nx₀ := [(d, W.listOf (List.toArray []) 0)]) (fun p hp => .tail _ hp) (fun p hp => by rw [List.mem_singleton.mp hp]; exact Nat.ne_of_lt l4) ⟨[], 0, [], rfl, .nil, Nat.le_refl _⟩ ?_ ?_
  · rintro i v u nx hh tk own hv hoff hmem ⟨us, n, ks, rfl, hU, hUl⟩ F5 N5
    have hi : i < 32 := by
      have := (List.getElem?_eq_some_iff.mp hv).1
      omega
    obtain ⟨c, t, rfl⟩ := ints_item hI4 hv
    simp only [List.cons_append, List.nil_append] at N5
    have hown : ∀ p ∈ own, p.1 ≠ d := tboff_head' hoff
    clear hv N4 F4
    k_steps
    · unfold Halt
      rename IsRange _ _ _ _ _ _ _ _ => R9
      rename Fr _ _ _ _ => F9
      rename News _ _ _ _ => N9
      refine range_loop_int (n := 7) (Str.ofString "amount") (fun j nx => ∃ us n ks, nx = (d, W.listOf (List.toArray us) n) :: own ∧ IntsAre us ks ∧ us.length ≤ 8 * i + 1 + j)
        rfl R9 (by decide) (by rw [rangeSize_nat]; rfl) F9 N9 ⟨_, _, _, rfl, ints_snoc hU _ _, by rw [List.length_append, List.length_singleton]; omega⟩ ⟨_, _, rfl⟩ ?_ ?_
      · rintro j tj am ta nx h6 tk6 own2 hj hoff2 ⟨us2, n2, ks2, rfl, hU2, hl2⟩ F7 N7
        have hown2 : ∀ p ∈ own ++ own2, p.1 ≠ d := fun p hp => (List.mem_append.mp hp).elim (hown p) (tboff_head' hoff2 p)
        simp only [List.cons_append] at N7
        clear N9 F9 R9
        k_steps
        · rename Fr _ _ _ _ => F10
          rename News _ _ _ _ => N10
          exact tbEnd_of [(d, W.listOf (List.toArray us2) n2)] F10 N10 (fun p hp => by rw [List.mem_singleton.mp hp]; exact .head _) (fun p hp => .tail _ (List.mem_append_left _ hp)) (tboff_cons' hown tboff_nil')
            ⟨⟨us2, n2, ks2, rfl, hU2, by omega⟩, fun z z1 z2 => by simp only [List.contains_cons, List.contains_nil, Bool.or_false, Bool.or_eq_false_iff, beq_eq_false_iff_ne, ne_eq] at z2; simp [z1, z2.1, z2.2]⟩
        · rename Fr _ _ _ _ => F10
          rename News _ _ _ _ => N10
          exact tbEnd_of ((d, _) :: own) F10 N10 (fun p hp => (List.mem_cons.mp hp).elim (fun e => e ▸ .head _) (fun h => .tail _ (List.mem_append_left _ h))) (fun p hp => .tail _ (List.mem_append_right _ hp)) (tboff_cons' (tboff_head' hoff2) (tboff_tail' hoff2))
            ⟨⟨_, _, _, rfl, ints_snoc hU2 _ _, by rw [List.length_append, List.length_singleton]; omega⟩, ⟨_, _, rfl⟩, fun z z1 z2 => by simp [z1, z2]⟩
      · rintro u am ta nx h6 tk6 ⟨us2, n2, ks2, rfl, hU2, hl2⟩ F7 N7
        clear N9 F9 R9
        k_steps
        exact tbEnd_of [(d, W.listOf (List.toArray us2) n2)] F7 N7 (fun p hp => by rw [List.mem_singleton.mp hp]; exact .head _) (fun p hp => .tail _ hp) (tboff_cons' hown tboff_nil')
          ⟨⟨us2, n2, ks2, rfl, hU2, by omega⟩, fun z z1 z2 => by simp only [List.contains_cons, List.contains_nil, Bool.or_false, Bool.or_eq_false_iff, beq_eq_false_iff_ne, ne_eq] at z2; simp [z1, z2.1, z2.2]⟩
    · unfold Halt
      rename IsRange _ _ _ _ _ _ _ _ => R9
      rename Fr _ _ _ _ => F9
      rename News _ _ _ _ => N9
      refine range_loop_int (n := 7) (Str.ofString "amount") (fun j nx => ∃ us n ks, nx = (d, W.listOf (List.toArray us) n) :: own ∧ IntsAre us ks ∧ us.length ≤ 8 * i + 1 + j)
        rfl R9 (by decide) (by rw [rangeSize_nat]; rfl) F9 N9 ⟨_, _, _, rfl, ints_snoc hU _ _, by rw [List.length_append, List.length_singleton]; omega⟩ ⟨_, _, rfl⟩ ?_ ?_
      · rintro j tj am ta nx h6 tk6 own2 hj hoff2 ⟨us2, n2, ks2, rfl, hU2, hl2⟩ F7 N7
        have hown2 : ∀ p ∈ own ++ own2, p.1 ≠ d := fun p hp => (List.mem_append.mp hp).elim (hown p) (tboff_head' hoff2 p)
        simp only [List.cons_append] at N7
        clear N9 F9 R9
        k_steps
        · rename Fr _ _ _ _ => F10
          rename News _ _ _ _ => N10
          exact tbEnd_of [(d, W.listOf (List.toArray us2) n2)] F10 N10 (fun p hp => by rw [List.mem_singleton.mp hp]; exact .head _) (fun p hp => .tail _ (List.mem_append_left _ hp)) (tboff_cons' hown tboff_nil')
            ⟨⟨us2, n2, ks2, rfl, hU2, by omega⟩, fun z z1 z2 => by simp only [List.contains_cons, List.contains_nil, Bool.or_false, Bool.or_eq_false_iff, beq_eq_false_iff_ne, ne_eq] at z2; simp [z1, z2.1, z2.2]⟩
        · rename Fr _ _ _ _ => F10
          rename News _ _ _ _ => N10
          exact tbEnd_of ((d, _) :: own) F10 N10 (fun p hp => (List.mem_cons.mp hp).elim (fun e => e ▸ .head _) (fun h => .tail _ (List.mem_append_left _ h))) (fun p hp => .tail _ (List.mem_append_right _ hp)) (tboff_cons' (tboff_head' hoff2) (tboff_tail' hoff2))
            ⟨⟨_, _, _, rfl, ints_snoc hU2 _ _, by rw [List.length_append, List.length_singleton]; omega⟩, ⟨_, _, rfl⟩, fun z z1 z2 => by simp [z1, z2]⟩
      · rintro u am ta nx h6 tk6 ⟨us2, n2, ks2, rfl, hU2, hl2⟩ F7 N7
        clear N9 F9 R9
        k_steps
        exact tbEnd_of [(d, W.listOf (List.toArray us2) n2)] F7 N7 (fun p hp => by rw [List.mem_singleton.mp hp]; exact .head _) (fun p hp => .tail _ hp) (tboff_cons' hown tboff_nil')
          ⟨⟨us2, n2, ks2, rfl, hU2, by omega⟩, fun z z1 z2 => by simp only [List.contains_cons, List.contains_nil, Bool.or_false, Bool.or_eq_false_iff, beq_eq_false_iff_ne, ne_eq] at z2; simp [z1, z2.1, z2.2]⟩
  · rintro u nx hh tk ⟨us, n, ks, rfl, hU, hUl⟩ F5 N5
    clear N4 F4
    k_steps
    dsimp only
    rename IntsAre _ (List.reverse _) => hR
    rename Fr _ _ _ _ => F6
    rename News _ _ _ _ => N6
    have hRl := hR.length
    have hUk := hU.length
    rw [List.length_reverse] at hRl
    exact Ends.intro [_] F6 N6 (fun p hp => by rw [List.mem_singleton.mp hp]; exact .head _) ⟨_, rfl, .mk hR (by omega)⟩
end Mine

set_option Elab.async false
set_option maxRecDepth 100000
namespace Mine
open PySem PySem.W PyProof.Rows PySem.Calls PySem.Spec
section
variable {prog : Program} {w : World} {A : Around} {E : Value → Shared → Prop} {s : Shared} {env : Env} {h₀ : Heap} {x : Str} {body : List Stmt} {Q : Flow → Shared → Prop}

/-- as src_loop, but what is walked over stays in the ledger that the turn may read -/
theorem src_loop2 {I l : Addr} {ol : Obj} {n : Nat} {P : Nat → Value → Prop} {St : Nat → Heap → Prop} {m₀ : Str → Option Value} {nx₀ : List (Addr × Obj)} (stored : List Str) (J : Nat → List (Addr × Obj) → Prop)
    (W : Walks prog w A I [I, l] [I] n P St) (hst : St 0 s.heap) (hIo : ∀ i h, St i h → ∃ o, h.get? I = some o) (hlo : ∀ i h, St i h → h.get? l = some ol)
    (hLI : env.locals ≠ I) (hLl : env.locals ≠ l) (hI : h₀.get? I = none) (F : Fr h₀ env.locals s.heap m₀) (N : News h₀ env.locals s.heap nx₀) (oI : ∀ p ∈ nx₀, p.1 ≠ I) (inJ : ∀ i nx, J i nx → (l, ol) ∈ nx) (hj : J 0 nx₀)
    (turn : ∀ i v (u : Str → Option Value) nx h tk own, i < n → P i v → TbOff own nx → J i nx → Fr h₀ env.locals h (fun z => if z = x then some v else if stored.contains z then u z else m₀ z) → News h₀ env.locals h (nx ++ own) →
      wpAny (model prog w) A (execs body env) (TbPost h₀ env.locals (Kept x stored m₀ (J (i + 1))) own { s with heap := h, toks := tk } Q) E { s with heap := h, toks := tk })
    (done : ∀ (u : Str → Option Value) nx h tk, J n nx → Fr h₀ env.locals h (fun z => if z = x then u z else if stored.contains z then u z else m₀ z) → News h₀ env.locals h nx → Q .next { s with heap := h, toks := tk }) :
    LoopAtV prog w A h₀ env x body Q E (.ref I) s := by
  refine ⟨I, [I, l], [I], n, P, St, m₀, nx₀, fun i m nx => Kept x stored m₀ (J i) m nx, rfl, W, ?_, ?_, ?_, hst, F, N, ⟨hj, fun _ _ _ => rfl⟩, ?_, ?_⟩
  · intro hm
    rcases List.mem_cons.mp hm with e | hm
    · exact hLI e
    · exact hLl (List.mem_singleton.mp hm)
  · intro b hb
    rw [List.mem_singleton.mp hb]; exact hI
  · intro p hp hq
    exact oI p hp (List.mem_singleton.mp hq)
  · rintro i v m₁ nx s₁ own ⟨hh', tk', rfl⟩ hin hP ⟨hJ, hm⟩ hoff hown hat hmem hst' F₁ N₁
    obtain ⟨oi, hoi⟩ := hIo _ _ hst'
    have mI : (I, oi) ∈ own := hmem I (.head _) hI oi hoi
    have hsep : TbOff [(I, oi)] nx := by
      intro p hp q hq e
      rw [List.mem_singleton.mp hp] at e
      exact hoff q hq (List.mem_singleton.mpr e.symm)
    have N₂ : News h₀ env.locals hh' (nx ++ [(I, oi)]) := fun p hp => N₁ p ((List.mem_append.mp hp).elim (fun h => List.mem_append.mpr (.inr h)) fun h => List.mem_append.mpr (.inl (by rw [List.mem_singleton.mp h]; exact mI)))
    rw [map_eq stored hm] at F₁
    refine wpAny_mono (turn i v m₁ nx hh' tk' [(I, oi)] hin hP hsep hJ F₁ N₂) (fun f s₂ p => ?_) fun _ _ e => e
    have fin : TbEnd h₀ env.locals (Kept x stored m₀ (J (i + 1))) [(I, oi)] { s with heap := hh', toks := tk' } s₂ → LoopStepU h₀ env.locals [I] own (fun m nx => Kept x stored m₀ (J (i + 1)) m nx) { s with heap := hh', toks := tk' } .next s₂ := by
      rintro ⟨h', tk, m', news', nx', e, F', N', hn, ho, ha, hk⟩
      refine ⟨rfl, h', tk, m', nx', e, F', fun p hp => ?_, fun p hp hq => ?_, hk⟩
      · rcases List.mem_append.mp hp with hp | hp
        · obtain ⟨a, q⟩ := p
          rcases List.mem_cons.mp (hown (a, q) hp) with h1 | h1
          · dsimp only at h1
            subst h1
            have : q = oi := Option.some.inj ((N₁ _ (List.mem_append_left _ hp)).1.symm.trans (N₁ _ (List.mem_append_left _ mI)).1)
            rw [this]
            exact N' _ (ho _ (.head _))
          · have h2 := List.mem_singleton.mp h1
            dsimp only at h2
            subst h2
            have : q = ol := Option.some.inj ((N₁ _ (List.mem_append_left _ hp)).1.symm.trans (hlo _ _ hst'))
            rw [this]
            exact N' _ (hn _ (inJ _ _ hk.1))
        · exact N' p (hn p hp)
      · exact ha _ (.head _) p hp (List.mem_singleton.mp hq).symm
    cases f with
    | ret v => exact .ret p
    | brk => exact .brk p
    | next => exact .next (fin p)
    | cont => exact .cont (fin p)
  · rintro h' tk m' nx' F' N' _ ⟨hJ, hm⟩
    rw [map_eq' stored hm] at F'
    exact done m' nx' h' tk hJ F' N'

theorem dict_loop2 {d : Addr} {o : Obj} {kvs : List (Str × Value)} {m₀ : Str → Option Value} {all nx₀ : List (Addr × Obj)} (stored : List Str) (J : Nat → List (Addr × Obj) → Prop)
    (hh : A.handled = none) (F : Fr h₀ env.locals s.heap m₀) (N : News h₀ env.locals s.heap all) (hd : o.IsDictOf (strKind prog w) kvs) (lo : (d == sysModules) = false) (sub : ∀ p ∈ nx₀, p ∈ all) (inJ : ∀ i nx, J i nx → (d, o) ∈ nx) (hj : J 0 nx₀)
    (turn : ∀ i k v t (u : Str → Option Value) nx h tk own, kvs[i]? = some (k, v) → TbOff own nx → J i nx → Fr h₀ env.locals h (fun z => if z = x then some (.str k t) else if stored.contains z then u z else m₀ z) → News h₀ env.locals h (nx ++ own) →
      wpAny (model prog w) A (execs body env) (TbPost h₀ env.locals (Kept x stored m₀ (J (i + 1))) own { s with heap := h, toks := tk } Q) E { s with heap := h, toks := tk })
    (done : ∀ (u : Str → Option Value) nx h tk, J kvs.length nx → Fr h₀ env.locals h (fun z => if z = x then u z else if stored.contains z then u z else m₀ z) → News h₀ env.locals h nx → Q .next { s with heap := h, toks := tk }) :
    wpAny (model prog w) A (pyIter (.ref d)) (fun it s₂ => LoopAtV prog w A h₀ env x body Q E it s₂) E s := by
  obtain ⟨ep, ha⟩ := KdkAt.of hd
  have hm : (d, o) ∈ all := sub _ (inJ _ _ hj)
  have hl := (N _ hm).1
  have hlt : d < s.heap.objs.size := Heap.lt_size hl
  have hne : d ≠ s.heap.objs.size := Nat.ne_of_lt hlt
  refine wpAny_pyIter_dict lo (ha.dictAt hl) ?_
  have W0 := Walks.dictKeys (prog := prog) (w := w) (knd := strKind prog w) hh s.heap.objs.size d hne kvs ep
  have W1 : Walks prog w A s.heap.objs.size [s.heap.objs.size, d] [s.heap.objs.size] kvs.length (fun i v => ∃ k x, kvs[i]? = some (k, x) ∧ (strKind prog w).is k v = true) (fun i h => (h.IsKeyIter s.heap.objs.size d i kvs.length ep ∧ h.DictAt (strKind prog w) d kvs ep) ∧ h.get? d = some o) :=
    { sub := W0.sub
      frame := fun i h h' st hk => ⟨W0.frame i h h' st.1 hk, hk d (by simp) _ st.2⟩
      item := fun i s Q E hi st hQ => W0.item i s Q E hi st.1 fun v h' tk hP st' hk => hQ v h' tk hP ⟨st', hk d _ (by simpa using hne) st.2⟩ hk
      done := fun s Q E st hQ => W0.done s Q E st.1 hQ
      self := fun i s Q E st hQ => W0.self i s Q E st.1 hQ }
  refine src_loop2 (ol := o) (nx₀ := nx₀) (m₀ := m₀) stored J W1 ⟨⟨⟨_, Heap.get?_push_size _ rfl, rfl, rfl⟩, ha.dictAt (Heap.get?_push_of_some _ hl)⟩, Heap.get?_push_of_some _ hl⟩ (fun i h st => let ⟨⟨o, e, _⟩, _⟩ := st.1; ⟨o, e⟩) (fun i h st => st.2)
    (Nat.ne_of_lt F.ns.lt) (Ne.symm (N _ hm).2.1) (next_is_new F) (F.push _) (fun p hp => ⟨Heap.get?_push_of_some _ (N p (sub p hp)).1, (N p (sub p hp)).2⟩) (fun p hp => Nat.ne_of_lt (Heap.lt_size (N p (sub p hp)).1)) inJ hj ?_ ?_
  · rintro i v u nx h tk own hi ⟨k, y, hx, hk⟩ hoff hJ F₁ N₁
    obtain ⟨t, rfl⟩ := PySem.Value.isStrOf_shape hk
    exact turn i k y t u nx h tk own hx hoff hJ F₁ N₁
  · rintro u nx h tk hJ F₁ N₁
    exact done u nx h tk hJ F₁ N₁
end
end Mine

set_option Elab.async false
set_option maxRecDepth 100000
set_option maxHeartbeats 8000000
namespace Mine
open PySem PySem.W PyProof.Rows PySem.Calls
theorem tellL_use {w : World} {sc : Addr} {items : Array Value} {f : Addr} {vs : List Value} {D U : Nat} {Out : Value → List (Addr × Obj) → Prop}
    {mean : ExcName → Option Value} {mg mb : Str → Option Value} {dp un : Nat} {gd : Option (List Code)} {cn : Str} {cs : Scope} {a : Addr} {ccd : Value} {cl : List (Str × Addr)} {outer : List Env} {A₀ : Around} {base h₀ : Heap} {L : Addr} {m : Str → Option Value} {s : Shared} {Q E : Value → Shared → Prop}
    (keep : List (Addr × Obj)) (T : TellL w sc items f vs D U Out)
    (B : Below A₀ base outer h₀) (F : Fr h₀ L s.heap m) (X : (hd.heap_39 w.params).In h₀) (N : News h₀ L s.heap keep) (IL : h₀.IsList sc items) (G : Top hd.view_39 (looseW hd.view_39 []) mean mg mb h₀) (hk : cs.kind = .function)
    (hd' : dp + D < recursionLimit) (hu : un + U < cLine)
    (ret : ∀ r news' h' tk', Fr h₀ L h' m → News h₀ L h' (keep ++ news') → TbOff keep news' → Out r news' → Q r { s with heap := h', toks := tk' }) :
    wpAny (model Pg w) (ktrTop dp un gd cn cs L a ccd cl outer) (call (.ref f) vs) Q E s :=
  T _ _ _ _ _ _ _ _ _ _ _ _ _ _ _ _ _ keep _ _ _ B F X N IL G hk hd' hu ret
theorem TabOn.sub {b : Nat} {w : World} {news news' : List (Addr × Obj)} {σ : Str → Option Tr} {v : Value} (h : TabOn b w news σ v) (k : Sub news news') : TabOn b w news' σ v := h.step k.step
theorem TabOn.ref {b : Nat} {w : World} {news : List (Addr × Obj)} {σ : Str → Option Tr} {v : Value} (h : TabOn b w news σ v) : ∃ d, v = .ref d := by cases h; exact ⟨_, rfl⟩
theorem value_at_key {kvs : List (Str × Value)} {k : Str} (h : k ∈ kvs.map (·.1)) : ∃ v, valueAt kvs k = some v := by
  unfold valueAt
  cases e : kvs.find? (fun kv => decide (kv.1 = k)) with
  | some q => exact ⟨q.2, rfl⟩
  | none =>
    obtain ⟨q, hq, e2⟩ := List.mem_map.mp h
    have := List.find?_eq_none.mp e q hq
    simp [e2] at this
theorem key_at {kvs : List (Str × Value)} {i : Nat} {k : Str} {v : Value} (h : kvs[i]? = some (k, v)) : k ∈ kvs.map (·.1) := List.mem_map.mpr ⟨_, List.mem_of_getElem? h, rfl⟩
theorem take_snoc {α β : Type} {f : α → β} {xs : List α} {i : Nat} {x : α} (h : xs[i]? = some x) : (xs.take (i + 1)).map f = (xs.take i).map f ++ [f x] := by
  rw [List.take_succ, h, List.map_append]; rfl
end Mine
open PySem PySem.W PyProof.Rows PySem.Calls
local macro_rules | `(tactic| walk_at "subscriptTail") => `(tactic| (k_here; (with_reducible show wpAny _ _ (subscriptTail _ _ (Value.ref _) (Value.str _ _)) _ _ _); refine' Mine.tab_get ?N ?m ?d ?x ?_; (case N => k_asm); (case m => k_mem); (case d => assumption); (case x => assumption)))
local macro_rules | `(tactic| walk_at "compareOp In str ref") => `(tactic| (k_here; refine' Mine.tab_in ?N ?m ?d ?l ?_ ?_; (case N => k_asm); (case m => k_mem); (case d => assumption); (case l => assumption); (all_goals intros)))
local macro_rules | `(tactic| walk_at "compareOp NotIn str ref") => `(tactic| (k_here; refine' Mine.tab_notin ?N ?m ?d ?l ?_ ?_; (case N => k_asm); (case m => k_mem); (case d => assumption); (case l => assumption); (all_goals intros)))
local macro_rules | `(tactic| walk_at "exec For Name Name cons nil") => `(tactic| (k_here; (with_reducible rename Fr _ _ _ _ => lF'); (with_unfolding_all refine' For_invVF lF' ?k1 ?k2 ?_; (case k1 => exact rfl); (case k2 => exact rfl); k_whole)))
namespace Mine
abbrev NamesJ (w : World) (Wl : List (Addr × Obj)) (di : Addr) (i : Nat) (nx : List (Addr × Obj)) : Prop := ∃ oi kvs W', nx = (di, oi) :: W' ∧ Sub Wl W' ∧ (∀ p ∈ W', p.1 ≠ di) ∧ oi.IsDictOf (strKind Pg w) kvs ∧ kvs.length ≤ i ∧ TabOk w W' kvs (ident (([Str.ofString "p", Str.ofString "q", Str.ofString "r", Str.ofString "s"]).take i))
theorem itself_end {w : World} {h₀ : Heap} {L : Addr} {h : Heap} {s₁ : Shared} {tk : Nat} {m : Str → Option Value} {m₀ : Str → Option Value} {Wl W2 own : List (Addr × Obj)} {x d di : Addr} {o' o2 : Obj} {t1 t2 t3 u1 u2 : Tok} {nm : Str} {i : Nat} {kvs : List (Str × Value)}
    (F : Fr h₀ L h m) (N : News h₀ L h ((x, instObj 67 d) :: (d, symD w t1 t2 t3 u1 u2 nm) :: (di, o') :: (W2 ++ own))) (q3 : @LT.lt Nat _ di d ∧ AllLt d (W2 ++ own)) (q4 : @LT.lt Nat _ d x) (hd : o'.IsDictOf (strKind Pg w) (PySem.stored kvs nm (.ref x)))
    (off : TbOff own ((di, o2) :: W2)) (sb : Sub Wl W2) (nd : ∀ p ∈ W2, p.1 ≠ di) (hl : kvs.length ≤ i) (hT : TabOk w W2 kvs (ident (([Str.ofString "p", Str.ofString "q", Str.ofString "r", Str.ofString "s"]).take i))) (hnm : ([Str.ofString "p", Str.ofString "q", Str.ofString "r", Str.ofString "s"])[i]? = some nm)
    (hm : ∀ z, z ≠ Str.ofString "name" → m z = m₀ z) : TbEnd h₀ L (Kept (Str.ofString "name") [] m₀ (NamesJ w Wl di (i + 1))) own s₁ { s₁ with heap := h, toks := tk } := by
  have hlt := fun q hq => tb_ltOf q3.2 q hq
  have hl3 := stored_length_le kvs nm (.ref x)
  refine tbEnd_of ((di, o') :: (x, instObj 67 d) :: (d, symD w t1 t2 t3 u1 u2 nm) :: W2) F N (fun p hp => by simp only [List.mem_append, List.mem_cons] at hp ⊢; grind) (fun p hp => by simp only [List.mem_append, List.mem_cons]; grind)
    (tboff_cons' (tboff_head' off) (tboff_cons' (fun q hq => Nat.ne_of_lt (Nat.lt_trans (hlt q (List.mem_append_right _ hq)) q4)) (tboff_cons' (fun q hq => Nat.ne_of_lt (hlt q (List.mem_append_right _ hq))) (tboff_tail' off))))
    ⟨⟨_, _, _, rfl, fun p hp => .tail _ (.tail _ (sb p hp)), fun p hp => ?_, hd, by omega, ?_⟩, fun z z1 _ => hm z z1⟩
  · rcases List.mem_cons.mp hp with rfl | hp
    · exact Ne.symm (Nat.ne_of_lt (Nat.lt_trans q3.1 q4))
    · rcases List.mem_cons.mp hp with rfl | hp
      · exact Ne.symm (Nat.ne_of_lt q3.1)
      · exact nd p hp
  · rw [List.take_succ, hnm, Option.toList_some, ← ident_snoc]
    exact (hT.sub fun p hp => .tail _ (.tail _ hp)).stored (.sym (.head _) (.tail _ (.head _)))
end Mine
namespace Mine
/-- the three tables that leave a value as it is -/
theorem three_tabs {w : World} {h₀ : Heap} {L : Addr} {h : Heap} {l : Addr} {W2 : List (Addr × Obj)} {x d d1 d2 di : Addr} {o1 o2 oi : Obj} {t1 t2 t3 u1 u2 tu : Tok} {kvs : List (Str × Value)} {ks : List Str} (hN : News h₀ L h ((l, W.listOf (List.toArray [Value.ref di, Value.ref d2, Value.ref d1]) 0) :: (x, instObj 67 d) :: (d, symD w t1 t2 t3 u1 u2 (Str.ofString "p")) :: (d1, o1) :: (d2, o2) :: (di, oi) :: W2)) (lo1 : (d1 == sysModules) = false) (lo2 : (d2 == sysModules) = false) (loi : (di == sysModules) = false)
    (h1 : o1.IsDictOf (strKind Pg w) (strPairs [(Value.str (Str.ofString "u") tu, Value.ref x)])) (h2 : o2.IsDictOf (strKind Pg w) []) (hi : oi.IsDictOf (strKind Pg w) kvs) (hl : kvs.length ≤ 8) (hT : TabOk w W2 kvs (ident ks)) :
    ∀ (i : Nat) v, ([Value.ref di, Value.ref d2, Value.ref d1])[i]? = some v → ∃ σ, TabOn 8 w ((x, instObj 67 d) :: (d, symD w t1 t2 t3 u1 u2 (Str.ofString "p")) :: (d1, o1) :: (d2, o2) :: (di, oi) :: W2) σ v ∧ ∀ y, y ≠ Str.ofString "u" → (σ y).getD (.sym y) = .sym y := by
  intro i v hv
  rcases i with _ | _ | _ | i
  · cases hv
    exact ⟨_, .mk (by k_mem) loi hi hl (hT.sub fun p hp => .tail _ (.tail _ (.tail _ (.tail _ (.tail _ hp))))), fun y _ => ident_same y⟩
  · cases hv
    exact ⟨_, .mk (by k_mem) lo2 h2 (by decide) TabOk.empty, fun y _ => rfl⟩
  · cases hv
    refine ⟨fun y => if y = Str.ofString "u" then some (.sym (Str.ofString "p")) else none, .mk (by k_mem) lo1 h1 (by simp [strPairs]) ?_, fun y hy => by simp [hy]⟩
    have := (TabOk.empty (w := w) (news := ((x, instObj 67 d) :: (d, symD w t1 t2 t3 u1 u2 (Str.ofString "p")) :: (d1, o1) :: (d2, o2) :: (di, oi) :: W2))).stored (k := Str.ofString "u") (v := .ref x) (t := .sym (Str.ofString "p")) (.sym (.head _) (.tail _ (.head _)))
    exact this
  · exact (nil_get (j := i) (v := v) (by simp at hv)).elim
theorem off_six {x d d1 d2 di l : Addr} {p1 p2 p3 p4 p5 : Obj} {W2 : List (Addr × Obj)} (q : @LT.lt Nat _ x l ∧ @LT.lt Nat _ d l ∧ @LT.lt Nat _ d1 l ∧ @LT.lt Nat _ d2 l ∧ @LT.lt Nat _ di l ∧ AllLt l W2) : ∀ p ∈ (x, p1) :: (d, p2) :: (d1, p3) :: (d2, p4) :: (di, p5) :: W2, p.1 ≠ l := by
  obtain ⟨q1, q2, q3, q4, q5, q6⟩ := q
  intro p hp
  rcases List.mem_cons.mp hp with rfl | hp
  · exact Nat.ne_of_lt q1
  rcases List.mem_cons.mp hp with rfl | hp
  · exact Nat.ne_of_lt q2
  rcases List.mem_cons.mp hp with rfl | hp
  · exact Nat.ne_of_lt q3
  rcases List.mem_cons.mp hp with rfl | hp
  · exact Nat.ne_of_lt q4
  rcases List.mem_cons.mp hp with rfl | hp
  · exact Nat.ne_of_lt q5
  exact Nat.ne_of_lt (tb_ltOf q6 p hp)
theorem sub_six {a b c d e : Addr × Obj} {W2 : List (Addr × Obj)} : Sub W2 (a :: b :: c :: d :: e :: W2) := fun _ h => .tail _ (.tail _ (.tail _ (.tail _ (.tail _ h))))
end Mine

set_option Elab.async false
set_option maxRecDepth 100000
set_option maxHeartbeats 8000000
namespace Mine
open PySem PySem.W PyProof.Rows PySem.Calls
example : (fun (_ : OpenLaw) (_ : Params → Frag) => True) PySem.Challenge.rw_ov0041_01 hd.heap_39 := by w_top off; k_fill; trivial
end Mine
open PySem PySem.W PyProof.Rows PySem.Calls Mine
theorem Mine.law_holds : PySem.Challenge.rw_ov0041_01.Holds := by
  refine Mine.hd ?_
  k_go0
  k_steps
  unfold Halt
  rename World => w
  rename IntsAre _ _ => hI
  rename (¬ (63 : Int) < _) => hcond
  rename (Frag.In (hd.heap_39 _) _) => X
  rename Heap.IsList _ _ _ => IL
  rename Below callerA _ _ _ => B
  rename Top hd.view_39 (looseW hd.view_39 []) _ _ _ _ => T
  rename Fr _ _ _ _ => F0
  rename News _ _ _ _ => N0
  refine tellL_use [] (supply_tell hI (by have := hI.length; omega)) B F0 X N0 IL T rfl (by decide +kernel) (by decide +kernel) ?_
  rintro r0 sup h1 tk1 F1 N1 - ⟨a, rfl, S⟩
  rw [List.nil_append] at N1
  clear F0 N0
  k_steps
  unfold Halt
  rename Fr _ _ _ _ => F2
  rename News _ _ _ _ => N2
  refine tell_use [] sup (value_tell 3 S) B F2 X N2 (fun p hp => hp) tboff_nil T rfl (by decide +kernel) (by decide +kernel) ?_
  rintro e nw h2 tk2 F3 N3 - ⟨sup1, W1, t, rfl, S1, off1, At1, ok1⟩
  rw [List.nil_append] at N3
  clear F2 N2
  k_steps
  unfold Halt
  rename Fr _ _ _ _ => F4
  rename News _ _ _ _ => N4
  refine tell_use W1 sup1 (table_tell S1) B F4 X N4 (fun p hp => by simp only [List.mem_append] at hp ⊢; grind) (tboff_symm off1) T rfl (by decide +kernel) (by decide +kernel) ?_
  rintro r1 nw h3 tk3 F5 N5 off2 ⟨sup2, W2, σ, rfl, S2, off3, H2, okσ⟩
  clear F4 N4
  k_steps
  unfold Halt
  rename Fr _ _ _ _ => F6
  rename News _ _ _ _ => N6
  refine tell_use (W1 ++ W2) sup2 (table_tell S2) B F6 X N6 (fun p hp => by simp only [List.mem_append] at hp ⊢; grind) (tboff_app (fun p hp q hq => off2 p hp q (List.mem_append_left _ hq)) (tboff_symm off3)) T rfl (by decide +kernel) (by decide +kernel) ?_
  rintro r2 nw h4 tk4 F7 N7 off4 ⟨sup3, W3, τ, rfl, S3, off5, H3, okτ⟩
  clear F6 N6
  obtain ⟨W, hW⟩ : ∃ W, W = W1 ++ W2 ++ (sup3 ++ W3) := ⟨_, rfl⟩
  rw [← hW] at N7
  have A1 := At1.sub (news' := W) (fun p hp => by rw [hW]; simp only [List.mem_append]; grind)
  have T1 := H2.sub (news' := W) (fun p hp => by rw [hW]; simp only [List.mem_append]; grind)
  have T2 := H3.sub (news' := W) (fun p hp => by rw [hW]; simp only [List.mem_append]; grind)
  obtain ⟨d1, rfl⟩ := T1.ref
  obtain ⟨d2, rfl⟩ := T2.ref
  clear hW H2 H3 At1 S S1 S2 S3 off1 off2 off3 off4 off5
  k_steps
  unfold Halt
  rename Fr _ _ _ _ => F8
  rename News _ _ _ _ => N8
  refine tell_use [] W (subst_tell ok1 A1 T1) B F8 X N8 (fun p hp => hp) tboff_nil T rfl (by decide +kernel) (by decide +kernel) ?_
  rintro ro Wo h5 tk5 F9 N9 - ⟨st, Ao⟩
  rw [List.nil_append] at N9
  have oko := ok1.subst okσ
  replace A1 := A1.step st
  replace T1 := T1.step st
  replace T2 := T2.step st
  clear F8 N8 st
  k_steps
  unfold Halt
  rename Fr _ _ _ _ => F10
  rename News _ _ _ _ => N10
  refine tell_use [] Wo (shown_tell oko Ao) B F10 X N10 (fun p hp => hp) tboff_nil T rfl (by decide +kernel) (by decide +kernel) ?_
  rintro rs Ws h6 tk6 F11 N11 - ⟨Rs, sb⟩
  rw [List.nil_append] at N11
  replace A1 := A1.sub sb
  replace T1 := T1.sub sb
  replace T2 := T2.sub sb
  replace Ao := Ao.sub sb
  clear F10 N10 sb
  k_steps
  unfold Halt
  refine tell_use [] Ws (own_tell okσ ok1 A1 T1) B F11 X N11 (fun p hp => hp) tboff_nil T rfl (by decide +kernel) (by decide +kernel) ?_
  rintro rw Ww h7 tk7 F12 N12 - ⟨Rw, sb⟩
  rw [List.nil_append] at N12
  replace A1 := A1.sub sb
  replace T1 := T1.sub sb
  replace T2 := T2.sub sb
  replace Ao := Ao.sub sb
  replace Rs := Rs.sub sb
  clear F11 N11 sb
  k_steps
  refine ne_rd N12 Rs Rw (shown_simple oko) (shown_simple oko) (k := 6) (shown_depth oko) (by k_units) fun b hb => ?_
  obtain rfl : b = false := by
    cases b with
    | false => rfl
    | true => exact absurd rfl (hb.mp rfl)
  clear hb Rs Rw
  k_steps
  unfold Halt
  refine tell_use [] Ww (subst_tell oko Ao T2) B F12 X N12 (fun p hp => hp) tboff_nil T rfl (by decide +kernel) (by decide +kernel) ?_
  rintro rt Wt h8 tk8 F13 N13 - ⟨st, At2⟩
  rw [List.nil_append] at N13
  have okt := oko.subst okτ
  replace A1 := A1.step st
  replace Ao := Ao.step st
  replace T1 := T1.step st
  replace T2 := T2.step st
  clear F12 N12 st
  k_steps
  unfold Halt
  rename_i dj _ oj lj loj hdj fs hi fi _ F14 N14
  clear fs hi fi
  have U1 := T1
  cases T1 with
  | @mk _ o1 kvs1 m1 lo1 hd1 len1 tab1 =>
  refine dict_loop2 [] (fun i nx => ∃ oj kvs W', nx = (dj, oj) :: W' ∧ (d1, o1) ∈ W' ∧ Step w Wt W' ∧ (∀ p ∈ W', p.1 ≠ dj) ∧ oj.IsDictOf (strKind Pg w) kvs ∧ kvs.length ≤ i ∧ TabOk w W' kvs (join1 σ τ ((kvs1.take i).map (·.1))))
    rfl F14 N14 (nx₀ := (dj, oj) :: Wt) hd1 lo1 (fun _ h => h) (fun i nx ⟨_, _, _, e, m, _⟩ => e ▸ .tail _ m) ⟨oj, [], Wt, rfl, m1, Step.refl _, fun p hp => Nat.ne_of_lt (lj p hp), hdj, Nat.le_refl _, by rw [List.take_zero, List.map_nil, join1_nil]; exact TabOk.empty⟩ ?_ ?_
  · rintro i k v tt u nx hh tk own hi hoff ⟨o2, kvs, W', rfl, m2, st, nd, hd2, hl2, tab2⟩ F15 N15
    clear F14 N14
    simp only [List.cons_append] at N15
    obtain ⟨v', hv'⟩ := value_at_key (key_at hi)
    have nd2 : ∀ p ∈ W' ++ own, p.1 ≠ dj := fun p hp => (List.mem_append.mp hp).elim (nd p) (tboff_head' hoff p)
    have len1' : kvs1.length < 1000000 := by omega
    have hi4 : i < kvs1.length := (List.getElem?_eq_some_iff.mp hi).1
    obtain ⟨t', ht', A'⟩ := (tab1.step st).some hv'
    k_steps
    unfold Halt
    rename Fr _ _ _ _ => F16
    rename News _ _ _ _ => N16
    refine tell_use ((dj, o2) :: own) W' (subst_tell (okσ _ _ ht') A' (T2.step st)) B F16 X N16 (fun p hp => by simp only [List.cons_append, List.mem_append, List.mem_cons] at hp ⊢; grind) (tboff_cons nd (tboff_tail' hoff)) T rfl (by decide +kernel) (by decide +kernel) ?_
    rintro r W'' h9 tk9 F17 N17 off2 ⟨st2, Ar⟩
    simp only [List.cons_append] at N17
    have nd3 : ∀ p ∈ own ++ W'', p.1 ≠ dj := fun p hp => (List.mem_append.mp hp).elim (tboff_head' hoff p) (tboff_head off2 p)
    clear F16 N16
    k_steps
    rename Fr _ _ _ _ => F18
    rename News _ _ _ _ => N18
    rename (Obj.IsDictOf _ _ (PySem.stored _ _ _)) => hd3
    have hl3 := stored_length_le kvs k r
    have m3 : (d1, o1) ∈ W'' := by
      obtain ⟨o', ho', s'⟩ := st2 _ m2
      have := rigid_of hd1 (fun x v hv => let ⟨_, _, hA⟩ := tab1.some hv; hA.ref) s'
      exact this ▸ ho'
    refine tbEnd_of ((dj, _) :: W'') F18 N18 (fun p hp => by simp only [List.mem_append, List.mem_cons] at hp ⊢; grind) (fun p hp => by simp only [List.mem_append, List.mem_cons]; grind)
      (tboff_cons' (fun q hq => tboff_head' hoff q hq) (tboff_tail off2))
      ⟨⟨_, _, W'', rfl, m3, st.trans st2, fun p hp => nd3 p (List.mem_append_right _ hp), hd3, by omega, ?_⟩, fun z z1 z2 => by simp [z1]⟩
    rw [take_snoc hi, ← join1_snoc ht']
    exact (tab2.step st2).stored Ar
  · rintro u nx hh tk ⟨o2, kvs, W', rfl, m2, st, nd, hd2, hl2, tab2⟩ F15 N15
    rw [List.take_length, join1_all (fun x hx => tab1.none (not_key hx))] at tab2
    replace A1 := A1.step st
    replace Ao := Ao.step st
    replace At2 := At2.step st
    replace T1 := U1.step st
    replace T2 := T2.step st
    clear F14 N14 U1
    k_steps
    unfold Halt
    rename Fr _ _ _ _ => F16
    have tab1' := tab1.step st
    have U2 := T2
    cases T2 with
    | @mk _ o3 kvs2 q1 q2 q3 q4 q5 =>
    refine dict_loop2 [] (fun i nx => ∃ oj kvs, nx = (dj, oj) :: W' ∧ oj.IsDictOf (strKind Pg w) kvs ∧ kvs.length ≤ kvs1.length + i ∧ TabOk w W' kvs (join2 σ τ ((kvs2.take i).map (·.1))))
      rfl F16 N15 (nx₀ := (dj, o2) :: W') q3 q2 (fun _ h => h) (fun i nx ⟨_, _, e, _⟩ => e ▸ .tail _ q1) ⟨o2, kvs, rfl, hd2, hl2, tab2⟩ ?_ ?_
    · rintro i k v tt u2 nx hh2 tk10 own hi hoff ⟨o4, kvs3, rfl, hd4, hl4, tab4⟩ F17 N17
      clear F16 N15 hd2
      simp only [List.cons_append] at N17
      obtain ⟨v', hv'⟩ := value_at_key (key_at hi)
      obtain ⟨t', ht', A'⟩ := q5.some hv'
      have hi4 : i < kvs2.length := (List.getElem?_eq_some_iff.mp hi).1
      have nd2 : ∀ p ∈ W' ++ own, p.1 ≠ dj := fun p hp => (List.mem_append.mp hp).elim (nd p) (tboff_head' hoff p)
      k_steps
      · rename (valueAt kvs1 _ = some _) => en
        rename Fr _ _ _ _ => F18
        rename News _ _ _ _ => N18
        obtain ⟨t2, ht2, -⟩ := tab1.some en
        refine tbEnd_of ((dj, _) :: W') F18 N18 (fun p hp => by simp only [List.mem_append, List.mem_cons] at hp ⊢; grind) (fun p hp => by simp only [List.mem_append, List.mem_cons]; grind)
          hoff
          ⟨⟨_, _, rfl, hd4, by omega, ?_⟩, fun z z1 z2 => by simp [z1]⟩
        rw [take_snoc hi, ← join2_skip ht2]
        exact tab4
      · rename (valueAt kvs1 _ = none) => en
        rename Fr _ _ _ _ => F18
        rename News _ _ _ _ => N18
        rename (Obj.IsDictOf _ _ (PySem.stored _ _ _)) => hd5
        have hl5 := stored_length_le kvs3 k v'
        refine tbEnd_of ((dj, _) :: W') F18 N18 (fun p hp => by simp only [List.mem_append, List.mem_cons] at hp ⊢; grind) (fun p hp => by simp only [List.mem_append, List.mem_cons]; grind)
          (tboff_cons' (fun q hq => tboff_head' hoff q hq) (tboff_tail' hoff))
          ⟨⟨_, _, rfl, hd5, by omega, ?_⟩, fun z z1 z2 => by simp [z1]⟩
        rw [take_snoc hi, ← join2_snoc (tab1.none en) ht']
        exact tab4.stored A'
    · rintro u2 nx hh2 tk10 ⟨o4, kvs3, rfl, hd4, hl4, tab4⟩ F17 N17
      rw [List.take_length, join2_all (fun x hx => q5.none (not_key hx))] at tab4
      clear F16 N15 hd2
      have sb : Sub W' ((dj, o4) :: W') := fun _ h => .tail _ h
      replace A1 := A1.sub sb
      replace Ao := Ao.sub sb
      replace At2 := At2.sub sb
      have TJ : TabOn 8 w ((dj, o4) :: W') (joined σ τ) (.ref dj) := .mk (.head _) loj hd4 (by omega) (tab4.sub sb)
      k_steps
      unfold Halt
      rename Fr _ _ _ _ => F18
      refine tell_use [] ((dj, o4) :: W') (subst_tell ok1 A1 TJ) B F18 X N17 (fun p hp => hp) tboff_nil T rfl (by decide +kernel) (by decide +kernel) ?_
      rintro rn Wn h10 tk11 F19 N19 - ⟨st4, An⟩
      rw [← subst_subst] at An
      rw [List.nil_append] at N19
      replace A1 := A1.step st4
      replace Ao := Ao.step st4
      replace At2 := At2.step st4
      clear F18 N17 U2 TJ tab4 hd4 tab2 nd m2 st tab1' tab1 m1 q5 q1 st4
      k_steps
      unfold Halt
      rename Fr _ _ _ _ => F20
      rename News _ _ _ _ => N20
      refine tell_use [] Wn (shown_tell okt An) B F20 X N20 (fun p hp => hp) tboff_nil T rfl (by decide +kernel) (by decide +kernel) ?_
      rintro rs Ws h6 tk6 F11 N11 - ⟨Rs, sb⟩
      rw [List.nil_append] at N11
      replace A1 := A1.sub sb
      replace Ao := Ao.sub sb
      replace At2 := At2.sub sb
      replace An := An.sub sb
      clear F20 N20 sb
      k_steps
      unfold Halt
      refine tell_use [] Ws (shown_tell okt At2) B F11 X N11 (fun p hp => hp) tboff_nil T rfl (by decide +kernel) (by decide +kernel) ?_
      rintro rw Ww h7 tk7 F12 N12 - ⟨Rw, sb⟩
      rw [List.nil_append] at N12
      replace A1 := A1.sub sb
      replace Ao := Ao.sub sb
      replace At2 := At2.sub sb
      replace An := An.sub sb
      replace Rs := Rs.sub sb
      clear F11 N11 sb
      k_steps
      refine ne_rd N12 Rs Rw (shown_simple okt) (shown_simple okt) (k := 8) (shown_depth okt) (by k_units) fun b hb => ?_
      obtain rfl : b = false := by
        cases b with
        | false => rfl
        | true => exact absurd rfl (hb.mp rfl)
      clear hb Rs Rw
      k_steps
      unfold Halt
      refine tell_use [] Ww (lang_tell okt okt An At2) B F12 X N12 (fun p hp => hp) tboff_nil T rfl (by decide +kernel) (by decide +kernel) ?_
      rintro rw Wl h8 tk8 F13 N13 - ⟨⟨b, rfl, hb⟩, sb⟩
      rw [List.nil_append] at N13
      obtain rfl : b = true := hb.mpr rfl
      replace A1 := A1.sub sb
      replace Ao := Ao.sub sb
      replace At2 := At2.sub sb
      clear F12 N12 sb hb An
      k_steps
      unfold Halt
      rename_i di _ oi li loi hdi fs hi fi _ F14 N14
      clear fs hi fi
      refine tell_use ((di, oi) :: Wl) [] names_tell B F14 X N14 (fun p hp => by simpa using hp) tboff_nil' T rfl (by decide +kernel) (by decide +kernel) ?_
      rintro r news5 h9 tk9 F15 N15 off4 ⟨la, n, u1, v1, w1, x1, rfl, rfl⟩
      clear F14 N14
      k_steps
      unfold Halt
      rename Fr _ _ _ _ => F16
      rename News _ _ _ _ => N16
      refine list_loop [] (NamesJ w Wl di)
        rfl F16 N16 (List.mem_append_right _ (.head _)) (nx₀ := (di, oi) :: Wl) (fun p hp => List.mem_append_left _ hp) (fun p hp => tboff_head' off4 p hp)
        ⟨oi, [], Wl, rfl, Sub.refl _, fun p hp => Nat.ne_of_lt (li p hp), hdi, Nat.le_refl _, by rw [List.take_zero, ident_nil]; exact TabOk.empty⟩ ?_ ?_
      · rintro i v u3 nx h tk12 own hv hoff hmem ⟨oi2, kvs4, W2, rfl, sbW, nd, hd2, hl2, hT2⟩ F17 N17
        obtain ⟨nm, tn, rfl, hnm⟩ : ∃ nm t, v = .str nm t ∧ ([Str.ofString "p", Str.ofString "q", Str.ofString "r", Str.ofString "s"])[i]? = some nm := by
          rcases i with _ | _ | _ | _ | i
          · cases hv; exact ⟨_, _, rfl, rfl⟩
          · cases hv; exact ⟨_, _, rfl, rfl⟩
          · cases hv; exact ⟨_, _, rfl, rfl⟩
          · cases hv; exact ⟨_, _, rfl, rfl⟩
          · exact (nil_get (j := i) (v := v) (by simp at hv)).elim
        have hi4 : i < 4 := (List.getElem?_eq_some_iff.mp hv).1
        clear F16 N16 hdi
        simp only [List.cons_append] at N17
        have nd2 : ∀ p ∈ W2 ++ own, p.1 ≠ di := fun p hp => (List.mem_append.mp hp).elim (nd p) (tboff_head' hoff p)
        k_steps
        rename Fr _ _ _ _ => F18
        rename News _ _ _ _ => N18
        rename (Obj.IsDictOf _ _ (PySem.stored _ _ _)) => hd5
        rename (_ ∧ AllLt _ _) => q3
        exact itself_end F18 N18 q3 (by assumption) hd5 hoff sbW nd hl2 hT2 hnm (fun z z1 => by simp [z1])
      · rintro u3 nx h tk12 ⟨oi2, kvs4, W2, rfl, sbW, nd, hd2, hl2, hT2⟩ F17 N17
        clear F16 N16 hdi
        replace A1 := A1.sub sbW
        replace Ao := Ao.sub sbW
        replace At2 := At2.sub sbW
        have lW : kvs4.length ≤ 8 := by simp only [List.length_cons, List.length_nil] at hl2; omega
        k_steps
        unfold Halt
        rename (_ ∧ _ ∧ _ ∧ _ ∧ _ ∧ AllLt _ _) => q6
        rename Fr _ _ _ _ => F18
        rename News _ _ _ _ => N18
        rename (Obj.IsDictOf _ _ (strPairs _)) => h1
        have hTabs := three_tabs N18 (by with_reducible assumption) (by with_reducible assumption) loi h1 (by with_reducible assumption) hd2 lW hT2
        refine list_loop [Str.ofString "same"] (fun i nx => Step w _ nx)
          rfl F18 N18 (.head _) (fun p hp => .tail _ hp) (off_six q6) (Step.refl _) ?_ ?_
        · rintro i v u4 nx h tk12 own hv hoff hmem st F19 N19
          obtain ⟨σi, Ti, hσi⟩ := hTabs i v hv
          replace A1 := (A1.sub sub_six).step st
          replace Ti := Ti.step st
          clear F18 N18 hTabs h1 hd2 hT2 Ao At2
          k_steps
          unfold Halt
          rename Fr _ _ _ _ => F20
          refine tell_use own nx (subst_tell ok1 A1 Ti) B F20 X N19 (fun p hp => by simp only [List.mem_append] at hp ⊢; exact hp.symm) hoff T rfl (by decide +kernel) (by decide +kernel) ?_
          rintro r n1 h13 tk13 F21 N21 off1 ⟨st1, Ar⟩
          rw [subst_same hσi ok1] at Ar
          replace A1 := A1.step st1
          clear F20 N19 Ti
          k_steps
          unfold Halt
          rename Fr _ _ _ _ => F22
          rename News _ _ _ _ => N22
          refine tell_use own n1 (lang_tell ok1 ok1 Ar A1) B F22 X N22 (fun p hp => hp) off1 T rfl (by decide +kernel) (by decide +kernel) ?_
          rintro r n2 h14 tk14 F23 N23 off2 ⟨⟨b, rfl, hb⟩, sb2⟩
          obtain rfl : b = true := hb.mpr rfl
          replace A1 := A1.sub sb2
          replace Ar := Ar.sub sb2
          clear F22 N22 hb
          k_steps
          unfold Halt
          refine tell_use own n2 (shown_tell ok1 Ar) B F23 X N23 (fun p hp => hp) off2 T rfl (by decide +kernel) (by decide +kernel) ?_
          rintro rs n3 h15 tk15 F24 N24 off3 ⟨Rs, sb3⟩
          replace A1 := A1.sub sb3
          clear F23 N23
          k_steps
          unfold Halt
          refine tell_use own n3 (shown_tell ok1 A1) B F24 X N24 (fun p hp => hp) off3 T rfl (by decide +kernel) (by decide +kernel) ?_
          rintro rw n4 h16 tk16 F25 N25 off4 ⟨Rw, sb4⟩
          replace Rs := Rs.sub sb4
          clear F24 N24
          k_steps
          refine ne_rd N25 (Rs.sub fun p hp => List.mem_append_right _ hp) (Rw.sub fun p hp => List.mem_append_right _ hp) (shown_simple ok1) (shown_simple ok1) (k := 4) (shown_depth ok1) (by k_units) fun b hb => ?_
          obtain rfl : b = false := by
            cases b with
            | false => rfl
            | true => exact absurd rfl (hb.mp rfl)
          k_steps
          exact tbEnd_of n4 F25 N25 (fun p hp => List.mem_append_right _ hp) (fun p hp => List.mem_append_left _ hp) off4
            ⟨(st.trans st1).trans ((sb2.trans sb3).trans sb4).step, fun z z1 z2 => by simp only [List.contains_cons, List.contains_nil, Bool.or_false, beq_eq_false_iff_ne, ne_eq] at z2; simp [z1, z2]⟩
        · rintro u4 nx h tk12 st F19 N19
          replace Ao := (Ao.sub sub_six).step st
          replace At2 := (At2.sub sub_six).step st
          clear F18 N18 hTabs h1 hd2 hT2 A1
          k_steps
          unfold Halt
          rename Fr _ _ _ _ => F20
          refine tell_use [] nx (lang_tell okt oko At2 Ao) B F20 X N19 (fun p hp => hp) tboff_nil T rfl (by decide +kernel) (by decide +kernel) ?_
          rintro r n1 h13 tk13 F21 N21 - ⟨⟨b, rfl, hb⟩, sb⟩
          rw [List.nil_append] at N21
          replace Ao := Ao.sub sb
          replace At2 := At2.sub sb
          clear F20 N19
          k_steps
          unfold Halt
          refine tell_use [] n1 (shown_tell okt At2) B F21 X N21 (fun p hp => hp) tboff_nil T rfl (by decide +kernel) (by decide +kernel) ?_
          rintro rs n2 h14 tk14 F22 N22 - ⟨Rs, sb2⟩
          rw [List.nil_append] at N22
          replace Ao := Ao.sub sb2
          clear F21 N21
          k_steps
          unfold Halt
          refine tell_use [] n2 (shown_tell oko Ao) B F22 X N22 (fun p hp => hp) tboff_nil T rfl (by decide +kernel) (by decide +kernel) ?_
          rintro rw n3 h15 tk15 F23 N23 - ⟨Rw, sb3⟩
          rw [List.nil_append] at N23
          replace Rs := Rs.sub sb3
          clear F22 N22
          k_steps
          refine eq_rd N23 Rs Rw (shown_simple okt) (shown_simple oko) (k := 8) (shown_depth okt) (by k_units) fun c hc => ?_
          obtain rfl : b = c := by rw [Bool.eq_iff_iff, hb, hc, shown_iff]
          cases b with
          | true => k_steps
          | false => k_steps

theorem PySem.Challenge.cw_ov0041_01_holds : PySem.Challenge.rw_ov0041_01.Holds := by
  exact Mine.law_holds
