import PyProof.Rows.All
import Wide.All
import OpenK.AllK
import Wide.FinOn
import PySem.Challenge.RW_xm0983_01
open PySem PySem.W PyProof.Rows
set_option Elab.async false
set_option maxRecDepth 100000
set_option rowWalk.seconds 0
namespace Mine
open PySem.Calls
-- the walk asks the rows of my own first
local macro_rules | `(tactic| walk_at $s:str) => `(tactic| k_extra $(Lean.Syntax.mkStrLit ("own " ++ s.getString)))
-- text Hd
section
local macro_rules | `(tactic| refine $t) => `(tactic| (refine' $t; first | (case hl => (intro w; unfold openEnds fencedOpening topFrom; rw [PySem.W.Fast.te14082659384304107361, PySem.W.Fast.te4187177175401517315, PySem.W.Fast.te10274390034422433532, PySem.W.Fast.te1435165496053646825, PySem.W.Fast.te14289696077712309145, PySem.W.Fast.te14364793385576792824]; kernel_rfl)) | skip))
local macro_rules | `(tactic| o_law) => `(tactic| refine holds_law (by decide +kernel) fun said => ?_)
set_option maxRecDepth 100000 in
set_option maxHeartbeats 8000000 in
open_top hd for PySem.Challenge.rw_xm0983_01
end
local macro_rules | `(tactic| walk_at "dummy1") => `(tactic| skip)
local macro_rules | `(tactic| walk_at "dummy2") => `(tactic| skip)
local macro_rules | `(tactic| walk_at "dummy3") => `(tactic| skip)

-- text Base
theorem text_Base : True := by
  w_top off
  trivial

noncomputable abbrev LO : List Str := looseW hd.view_1 [Str.ofString "NOBODY", Str.ofString "KNOWN_BITS"]

/-- what lies in the heap h beside g, the frame L and the addresses X -/
@[irreducible] def restOf (g : Heap) (L : Addr) (h : Heap) (X : List Addr) : List (Addr × Obj) :=
  (List.range h.objs.size).filterMap fun a => match h.get? a with
    | some o => if a ≠ L ∧ g.get? a = none ∧ a ∉ X then some (a, o) else none
    | none => none

theorem mem_restOf {g h : Heap} {L : Addr} {X : List Addr} {a : Addr} {o : Obj} :
    (a, o) ∈ restOf g L h X ↔ h.get? a = some o ∧ a ≠ L ∧ g.get? a = none ∧ a ∉ X := by
  unfold restOf
  rw [List.mem_filterMap]
  constructor
  · rintro ⟨b, _, hb⟩
    split at hb
    · rename_i o' ho'
      split at hb
      · rename_i hc
        cases hb
        exact ⟨ho', hc⟩
      · cases hb
    · cases hb
  · rintro ⟨h1, h2⟩
    refine ⟨a, List.mem_range.mpr (Heap.lt_size h1), ?_⟩
    rw [h1]
    dsimp only
    rw [if_pos h2]

theorem rest_ne {g h : Heap} {L d : Addr} {X : List Addr} (hd : d ∈ X) : ∀ p ∈ restOf g L h X, p.1 ≠ d := by
  intro p hp e
  exact (mem_restOf.mp (show (p.1, p.2) ∈ restOf g L h X from hp)).2.2.2 (e ▸ hd)
theorem allLt_ne {d : Addr} : ∀ {l : List (Addr × Obj)}, AllLt d l → ∀ p ∈ l, p.1 ≠ d
  | [], _, _, hp => (nomatch hp)
  | q :: r, h, p, hp => by
    rcases List.mem_cons.mp hp with rfl | hp
    · exact Nat.ne_of_lt h.1
    · exact allLt_ne h.2 p hp

theorem rest_news {g h : Heap} {L : Addr} {X : List Addr} : News g L h (restOf g L h X) := fun p hp =>
  have q := mem_restOf.mp (show (p.1, p.2) ∈ restOf g L h X from hp)
  ⟨q.1, q.2.1, q.2.2.1⟩

/-- all but X stands in h' as in h -/
structure Keep (X : List Addr) (L : Addr) (h h' : Heap) : Prop where
  get : ∀ a o, h.get? a = some o → a ≠ L → a ∉ X → h'.get? a = some o
def Fresh (h : Heap) (a : Addr) : Prop := h.get? a = none
/-- there, and neither the frame's nor the ground's -/
def NewAt (g : Heap) (L : Addr) (h : Heap) (a : Addr) : Prop := a ≠ L ∧ g.get? a = none ∧ ∃ o, h.get? a = some o
structure Anc (g h : Heap) : Prop where
  get : ∀ b o, g.get? b = some o → h.get? b = some o

abbrev tupO (vs : List Value) (n : Nat) : Obj := { cls := .type "tuple", data := .seq vs.toArray n }
structure Since (X : List Addr) (L : Addr) (h h' : Heap) : Prop where
  get : ∀ a o, h.get? a = some o → a ≠ L → a ∉ X → h'.get? a = some o
structure KeepT (h h' : Heap) : Prop where
  get : ∀ a vs n, h.get? a = some (tupO vs n) → h'.get? a = some (tupO vs n)
structure NoTup (h : Heap) (X : List Addr) : Prop where
  get : ∀ x ∈ X, ∃ o, h.get? x = some o ∧ ∀ vs n, o ≠ tupO vs n

theorem KeepT.trans {h h' h'' : Heap} (a : KeepT h h') (b : KeepT h' h'') : KeepT h h'' := ⟨fun _ _ _ e => b.get _ _ _ (a.get _ _ _ e)⟩
theorem KeepT.of_keep {h h' : Heap} {L : Addr} {X : List Addr} (k : Keep X L h h') (z : NoTup h (L :: X)) : KeepT h h' := ⟨fun a vs n e => by
  have q : a ∉ L :: X := fun hx => by
    obtain ⟨o, ho, hn⟩ := z.get a hx
    rw [e] at ho
    cases ho
    exact hn vs n rfl
  exact k.get _ _ e (fun p => q (p ▸ List.Mem.head _)) fun p => q (List.Mem.tail _ p)⟩
theorem NoTup.nil {h : Heap} : NoTup h [] := ⟨fun _ hx => nomatch hx⟩
theorem NoTup.cons {h : Heap} {x : Addr} {X : List Addr} {o : Obj} (ho : h.get? x = some o) (hn : ∀ vs n, o ≠ tupO vs n) (z : NoTup h X) : NoTup h (x :: X) := ⟨fun y hy => by
  rcases List.mem_cons.mp hy with rfl | hy
  · exact ⟨o, ho, hn⟩
  · exact z.get y hy⟩
theorem list_noTup {its : Array Value} {n : Nat} : ∀ vs k, listOf its n ≠ tupO vs k := fun _ _ e => absurd (congrArg Obj.cls e) (by simp)
theorem dict_noTup {es : List DictEntry} {n : Nat} : ∀ vs k, dictOf es n ≠ tupO vs k := fun _ _ e => absurd (congrArg Obj.cls e) (by simp)
theorem inst_noTup {C d : Addr} : ∀ vs k, instObj C d ≠ tupO vs k := fun _ _ e => by cases e

/-- what the ledger says of the anchor's heap -/
theorem kept_now {g h hk : Heap} {L : Addr} {m : Str → Option Value} {news : List (Addr × Obj)} {X : List Addr} (AN : Anc g hk) (F : Fr g L h m) (N : News g L h news) (hs : ∀ p ∈ restOf g L hk X, p ∈ news) :
    ∀ a o, hk.get? a = some o → a ≠ L → a ∉ X → h.get? a = some o := by
  intro a o e hL hX
  cases q : g.get? a with
  | some o' =>
    have := AN.get _ _ q
    rw [e] at this
    cases this
    exact F.keep _ _ q
  | none => exact (N (a, o) (hs _ (mem_restOf.mpr ⟨e, hL, q, hX⟩))).1
theorem keepT_now {g h hk : Heap} {L : Addr} {m : Str → Option Value} {news : List (Addr × Obj)} {X : List Addr} (AN : Anc g hk) (F : Fr g L h m) (N : News g L h news) (hs : ∀ p ∈ restOf g L hk X, p ∈ news)
    (hL : NoTup hk (L :: X)) : KeepT hk h := ⟨fun a vs n e => by
  have z : a ∉ L :: X := fun hx => by
    obtain ⟨o, ho, hn⟩ := hL.get a hx
    rw [e] at ho
    cases ho
    exact hn vs n rfl
  exact kept_now AN F N hs a _ e (fun q => z (q ▸ List.Mem.head _)) fun q => z (List.Mem.tail _ q)⟩
theorem Fr.noTup {g h : Heap} {L : Addr} {m : Str → Option Value} {X : List Addr} (F : Fr g L h m) (z : NoTup h X) : NoTup h (L :: X) := by
  obtain ⟨o, es, ep, ho, hd, _⟩ := F.ns
  exact .cons ho (fun vs n e => by rw [e] at hd; cases hd) z

theorem Since.refl {X : List Addr} {L : Addr} {h : Heap} : Since X L h h := ⟨fun _ _ e _ _ => e⟩

/-- the ledger behind a call -/
inductive Re (g : Heap) (L : Addr) (Mut : List Addr) (h' : Heap) : List (Addr × Obj) → List (Addr × Obj) → Prop where
  | nil : Re g L Mut h' [] []
  | rest {g' hk : Heap} {L' : Addr} {X : List Addr} : (∀ x ∈ Mut, x ∈ X) → Re g L Mut h' (restOf g' L' hk X) (restOf g' L' hk X)
  | anew {g' hk : Heap} {L' : Addr} {X : List Addr} : Re g L Mut h' (restOf g' L' hk X) (restOf g L h' X)
  | keep {p : Addr × Obj} {l l' : List (Addr × Obj)} : (∀ x ∈ Mut, p.1 ≠ x) → Re g L Mut h' l l' → Re g L Mut h' (p :: l) (p :: l')
  | swap {x : Addr} {o o' : Obj} {l l' : List (Addr × Obj)} : h'.get? x = some o' → Re g L Mut h' l l' → Re g L Mut h' ((x, o) :: l) ((x, o') :: l')
theorem Re.news {Mut : List Addr} {g h h' : Heap} {L : Addr} {l l' : List (Addr × Obj)} (R : Re g L Mut h' l l') (N : News g L h l) (K : Keep Mut L h h') : News g L h' l' := by
  induction R with
  | nil => exact News.nil
  | rest hx =>
    intro p hp
    refine ⟨K.get _ _ (N p hp).1 (N p hp).2.1 fun q => ?_, (N p hp).2⟩
    exact (mem_restOf.mp (show (p.1, p.2) ∈ restOf _ _ _ _ from hp)).2.2.2 (hx _ q)
  | anew => exact rest_news
  | keep hx _ ih =>
    intro p hp
    rcases List.mem_cons.mp hp with rfl | hp
    · exact ⟨K.get _ _ (N _ (.head _)).1 (N _ (.head _)).2.1 fun q => hx _ q rfl, (N _ (.head _)).2⟩
    · exact ih (fun q hq => N q (.tail _ hq)) p hp
  | swap ho _ ih =>
    intro p hp
    rcases List.mem_cons.mp hp with rfl | hp
    · exact ⟨ho, (N _ (.head _)).2⟩
    · exact ih (fun q hq => N q (.tail _ hq)) p hp
theorem News.keep0 {g h h' : Heap} {L : Addr} {l : List (Addr × Obj)} (N : News g L h l) (K : Keep [] L h h') : News g L h' l := fun p hp => ⟨K.get _ _ (N p hp).1 (N p hp).2.1 (fun q => nomatch q), (N p hp).2⟩

/-- a call behind which nothing new is to be kept in mind -/
theorem after_k {P : Prop} {g h h' : Heap} {L : Addr} {l l' : List (Addr × Obj)} {Mut : List Addr} (K : Keep Mut L h h') (N : News g L h l) (R : Re g L Mut h' l l') (k : News g L h' l' → P) : P := k (R.news N K)
/-- a new anchor -/
theorem anew_k {P : Prop} {g hk h h' s0 : Heap} {L : Addr} {m m' : Str → Option Value} {l l' : List (Addr × Obj)} {X Mut : List Addr} (K : Keep Mut L h h') (F : Fr g L h m) (N : News g L h l) (A : Anc g hk) (F' : Fr g L h' m')
    (sub : ∀ p ∈ restOf g L hk X, p ∈ l) (Z : NoTup hk (L :: X)) (hM : ∀ x ∈ Mut, x ∈ X) (ZM : NoTup h Mut) (R : Re g L Mut h' l l') (S : Since X L s0 hk) (Z' : News g L h' l' → NoTup h' X)
    (k : Anc g h' → News g L h' l' → NoTup h' (L :: X) → KeepT hk h' → Since X L s0 h' → P) : P := by
  have N' := R.news N K
  refine k ⟨fun b o e => F'.keep b o e⟩ N' (Fr.noTup F' (Z' N')) (KeepT.trans (keepT_now A F N sub Z) (KeepT.of_keep K (Fr.noTup F ZM))) ⟨fun a o e hL hX => ?_⟩
  exact K.get _ _ (kept_now A F N sub a o (S.get a o e hL hX) hL hX) hL fun q => hX (hM _ q)
theorem kept_since {g h hk s0 : Heap} {L : Addr} {m : Str → Option Value} {news : List (Addr × Obj)} {X : List Addr} (S : Since X L s0 hk) (AN : Anc g hk) (F : Fr g L h m) (N : News g L h news) (hs : ∀ p ∈ restOf g L hk X, p ∈ news) : Since X L s0 h :=
  ⟨fun a o e hL hX => kept_now AN F N hs a o (S.get a o e hL hX) hL hX⟩
theorem since_cons {X : List Addr} {L x : Addr} {h h' : Heap} {o : Obj} (e : h.get? x = some o) (e' : h'.get? x = some o) (S : Since (x :: X) L h h') : Since X L h h' := ⟨fun a o' q hL hX => by
  by_cases hx : a = x
  · subst hx; rw [e] at q; cases q; exact e'
  · exact S.get a o' q hL fun z => (List.mem_cons.mp z).elim hx hX⟩
/-- a contract -/
def Does (w : World) (f : Addr) (n : Nat) (vs : List Value) (Own Mut : List Addr) (Pre : Heap → Prop) (Post : Heap → Value → Heap → Prop) : Prop :=
  ∀ (dp un : Nat) (gd : Option (List Code)) (cn : Str) (cs : Scope) (a : Addr) (ccd : Value) (cl : List (Str × Addr)) (outer : List Env) (A₀ : Around) (base h₀ : Heap) (L : Addr) (m : Str → Option Value) (s : Shared) (Q E : Value → Shared → Prop)
    (mean : ExcName → Option Value) (mg mb : Str → Option Value),
    Below A₀ base outer h₀ → Fr h₀ L s.heap m → (hd.heap_1 w.params).In h₀ → Top hd.view_1 LO mean mg mb h₀ → cs.kind = .function →
    (∀ x ∈ Own, NewAt h₀ L s.heap x) → Pre s.heap → dp + n < recursionLimit → un + 8 * n + 200 < cLine →
    (∀ r h' tk', Fr h₀ L h' m → Keep Mut L s.heap h' → Post s.heap r h' → Q r { s with heap := h', toks := tk' }) →
    wpAny (model PySem.Challenge.rw_xm0983_01.row.prog w) (ktrTop dp un gd cn cs L a ccd cl outer) (call (.ref f) vs) Q E s

theorem Does.use {w : World} {f : Addr} {n : Nat} {vs : List Value} {Own Mut : List Addr} {Pre : Heap → Prop} {Post : Heap → Value → Heap → Prop}
    {dp un : Nat} {gd : Option (List Code)} {cn : Str} {cs : Scope} {a : Addr} {ccd : Value} {cl : List (Str × Addr)} {outer : List Env} {A₀ : Around} {base h₀ : Heap} {L : Addr} {m : Str → Option Value} {s : Shared} {Q E : Value → Shared → Prop}
    {mean : ExcName → Option Value} {mg mb : Str → Option Value} (D : Does w f n vs Own Mut Pre Post)
    (B : Below A₀ base outer h₀) (F : Fr h₀ L s.heap m) (X : (hd.heap_1 w.params).In h₀) (T : Top hd.view_1 LO mean mg mb h₀) (hk : cs.kind = .function)
    (hm : ∀ x ∈ Own, NewAt h₀ L s.heap x) (hp : Pre s.heap) (hd : dp + n < recursionLimit) (hu : un + 8 * n + 200 < cLine)
    (k : ∀ r h' tk', Fr h₀ L h' m → Keep Mut L s.heap h' → Post s.heap r h' → Q r { s with heap := h', toks := tk' }) :
    wpAny (model PySem.Challenge.rw_xm0983_01.row.prog w) (ktrTop dp un gd cn cs L a ccd cl outer) (call (.ref f) vs) Q E s :=
  D _ _ _ _ _ _ _ _ _ _ _ _ _ _ _ _ _ _ _ _ B F X T hk hm hp hd hu k

def Up (P : Heap → Prop) : Prop := ∀ h h' : Heap, (∀ a o, h.get? a = some o → h'.get? a = some o) → P h → P h'
/-- what a post may say of the heap ahead: what is new -/
def Down (P : Heap → Value → Heap → Prop) : Prop := ∀ (h h' : Heap) r h'', (∀ a o, h.get? a = some o → h'.get? a = some o) → P h' r h'' → P h r h''

theorem fresh_down {h h' : Heap} {a : Addr} (k : ∀ a o, h.get? a = some o → h'.get? a = some o) (f : Fresh h' a) : Fresh h a := by
  unfold Fresh at *
  cases q : h.get? a with
  | none => rfl
  | some o => rw [k _ _ q] at f; cases f

/-- the way into a def of the text's own -/
theorem does_of {w : World} {f : Addr} {n : Nat} {vs : List Value} {Own Mut : List Addr} {Pre : Heap → Prop} {Post : Heap → Value → Heap → Prop}
    {name qual : Str} {params : Arguments} {body : List Stmt} {scope : Scope} {dV kV doc pm cdv ct oc : Value} {an od : Option Addr} {osl : Array (Option Value)} {binds : List (Str × Value)}
    (hup : Up Pre) (hdn : Down Post) (hn : 1 ≤ n)
    (ho : (hd.heap_1 w.params).lookup f = some ⟨oc, od, .func (fnOf name qual params body scope dV kV doc pm an cdv ct), osl⟩) (hcd : codeIn (hd.heap_1 w.params) cdv qual = true)
    (hbind : ∀ s : Shared, (hd.heap_1 w.params).In s.heap → BindsTo s (fnOf name qual params body scope dV kV doc pm an cdv ct) ⟨vs, []⟩ binds) (hloc : ∀ y ∈ binds, scope.names.lookup y.1 = some .local)
    (hco : scope.isCoroutine = false) (hgen : scope.isGenerator = false) (hk : scope.kind = .function) (hcell : ∀ x ∈ scope.names, x.2 ≠ .cell)
    (h : ∀ (dp un : Nat) (gd : Option (List Code)) (outer : List Env) (A₀ : Around) (base g : Heap) (L : Addr) (s : Shared) (Q E : Value → Shared → Prop) (mean : ExcName → Option Value) (mg mb : Str → Option Value),
      Below A₀ base outer g → Fr g L s.heap (fun y => binds.reverse.lookup y) → (hd.heap_1 w.params).In g → Top hd.view_1 LO mean mg mb g →
      (∀ x ∈ Own, NewAt g L s.heap x) → Pre s.heap → dp + n ≤ recursionLimit → un + 8 * n + 192 < cLine →
      (∀ r h' tk' m', Fr g L h' m' → Since Mut L s.heap h' → Post s.heap r h' → Q r { s with heap := h', toks := tk' }) →
      wpAny (model PySem.Challenge.rw_xm0983_01.row.prog w) (ktrTop dp un gd qual scope L f cdv [] outer) (execs body (envX qual scope L f cdv []))
        (fun fl s' => Q (match fl with | .ret v => v | _ => .none) s') E s) :
    Does w f n vs Own Mut Pre Post := by
  intro dp un gd cn cs a ccd cl outer A₀ base h₀ L m s Q E mean mg mb B F X T hkc hmut hpre hdp hun hret
  refine wpAny_call ?_
  have N : News h₀ L s.heap (restOf h₀ L s.heap []) := rest_news
  obtain ⟨FG, BG, st, lv⟩ := groundX (A := ktrTop dp un gd cn cs L a ccd cl outer) (R := fun r s' => match r with | .ok (.ret v) => Q v s' | .ok _ => False | .error e => E e s') B F N rfl rfl hkc
  have Xs := X.keeps F.keep
  refine codeAny_call_def (fd := fnOf name qual params body scope dV kV doc pm an cdv ct) (body := body) (binds := binds) (by show dp < _; omega) (Xs _ _ ho) rfl (T.nolimit.keeps F.keep) (codeRec_of Xs hcd) rfl (hbind s Xs) hcell hloc (fun h₁ hns hk₁ => ?_) hco hgen hk
  have F1 : Fr (hideAll s.heap ((restOf h₀ L s.heap []).map (·.1))) s.heap.objs.size h₁ (fun y => binds.reverse.lookup y) := ⟨hns, fun b o e => hk₁ b o (of_hideAll _ e), Nat.le_of_eq (hideAll_size _ _)⟩
  have key := h (dp + 1) (un + 3) gd (envX cn cs L a ccd cl :: outer) _ base _ s.heap.objs.size { s with heap := h₁, toks := s.toks + binds.length } Q
    (fun e s' => wpAny (model PySem.Challenge.rw_xm0983_01.row.prog w) ((ktrTop dp un gd cn cs L a ccd cl outer).deeper (callEnv (fnOf name qual params body scope dV kV doc pm an cdv ct) s.heap.objs.size f)) (leaving (callEnv (fnOf name qual params body scope dV kV doc pm an cdv ct) s.heap.objs.size f) e) (fun _ s'' => E e s'') (fun e' s'' => E e' s'') s')
    mean mg mb BG F1 (X.keeps st) (T.keeps st) ?_ (hup _ _ hk₁ hpre) (by omega) (by omega) ?_
  · exact key
  · intro x hx
    obtain ⟨x1, x2, o, x3⟩ := hmut x hx
    refine ⟨fun e => ?_, ?_, o, hk₁ _ _ x3⟩
    · have := Heap.lt_size x3; rw [e] at this; exact absurd this (Nat.lt_irrefl _)
    · exact hideAll_none _ (List.mem_map.mpr ⟨(x, o), mem_restOf.mpr ⟨x3, x1, x2, fun q => nomatch q⟩, rfl⟩)
  · intro r h' tk' m' F' kp hpost
    refine lv r { s with heap := h', toks := tk' } ⟨_, m', [], F', News.nil, fun Fb _ => ?_⟩
    refine hret r h' tk' Fb ⟨fun a o e _ hx => ?_⟩ (hdn _ _ _ _ hk₁ hpost)
    exact kp.get a o (hk₁ _ _ e) (fun q => by have := Heap.lt_size e; rw [q] at this; exact absurd this (Nat.lt_irrefl _)) hx

-- text Info
theorem text_Info : True := by
  w_top off
  trivial

/-- an INFO -/
structure Info where
  a : Int
  b : Int
  c : Int
  d : Int
  e : Int
  st : Int
  deriving DecidableEq

inductive PairAt (h : Heap) (v : Addr) (x y : Int) : Prop where
  | mk (t u : Tok) (n : Nat) : h.get? v = some (tupO [.int x t, .int y u] n) → PairAt h v x y
inductive InfoAt (h : Heap) (v : Addr) (I : Info) : Prop where
  | mk (s e : Addr) (t u : Tok) (n : Nat) : h.get? v = some (tupO [.ref s, .int I.c t, .ref e, .int I.st u] n) → PairAt h s I.a I.b → PairAt h e I.d I.e → InfoAt h v I
/-- its first three -/
inductive TriAt (h : Heap) (v : Addr) (I : Info) : Prop where
  | mk (s e : Addr) (t : Tok) (n : Nat) : h.get? v = some (tupO [.ref s, .int I.c t, .ref e] n) → PairAt h s I.a I.b → PairAt h e I.d I.e → TriAt h v I
theorem KeepT.pair {h h' : Heap} {v : Addr} {x y : Int} (k : KeepT h h') : PairAt h v x y → PairAt h' v x y
  | .mk t u n a => .mk t u n (k.get _ _ _ a)
theorem KeepT.info {h h' : Heap} {v : Addr} {I : Info} (k : KeepT h h') : InfoAt h v I → InfoAt h' v I
  | .mk s e t u n a b c => .mk s e t u n (k.get _ _ _ a) (k.pair b) (k.pair c)
theorem KeepT.tri {h h' : Heap} {v : Addr} {I : Info} (k : KeepT h h') : TriAt h v I → TriAt h' v I
  | .mk s e t n a b c => .mk s e t n (k.get _ _ _ a) (k.pair b) (k.pair c)

inductive TupAt (h : Heap) (v : Addr) (vs : List Value) : Prop where
  | mk (n : Nat) : h.get? v = some (tupO vs n) → TupAt h v vs
theorem KeepT.tup {h h' : Heap} {v : Addr} {vs : List Value} (k : KeepT h h') : TupAt h v vs → TupAt h' v vs
  | .mk n a => .mk n (k.get _ _ _ a)
theorem InfoAt.of {h : Heap} {v s e : Addr} {a b c d f st : Int} {t u : Tok} {n : Nat} (q : h.get? v = some (tupO [.ref s, .int c t, .ref e, .int st u] n)) (p1 : PairAt h s a b) (p2 : PairAt h e d f) : InfoAt h v ⟨a, b, c, d, f, st⟩ := .mk s e t u n q p1 p2
theorem TriAt.of {h : Heap} {v s e : Addr} {a b c d f : Int} {t : Tok} {n : Nat} (q : h.get? v = some (tupO [.ref s, .int c t, .ref e] n)) (p1 : PairAt h s a b) (p2 : PairAt h e d f) : TriAt h v ⟨a, b, c, d, f, 0⟩ := .mk s e t n q p1 p2
theorem tup_isTup {h : Heap} {v : Addr} {vs : List Value} {n : Nat} (e : h.get? v = some (tupO vs n)) : IsTup h v vs.toArray := ⟨_, e, rfl, n, rfl⟩

section
variable {prog : Program} {w : World} {A : Around} {E : Value → Shared → Prop} {s : Shared} {v : Addr} {I : Info} {value slice : PySem.Expr} {u : Tok} {Q : Value → Shared → Prop}
theorem item_info0 (hI : InfoAt s.heap v I) (h : ∀ a, PairAt s.heap a I.a I.b → Q (.ref a) s)
    (hs : subscripted slice false (.ref v) (.int 0 u) = operate [.ref v, .int 0 u] (getItem (.ref v) (.int 0 u))) : wpAny (model prog w) A (subscriptTail value slice (.ref v) (.int 0 u)) Q E s := by
  obtain ⟨a, b, t1, t2, n, q, p1, p2⟩ := hI
  exact item_tupleT (tup_isTup q) (by decide) (by decide) (j := 0) rfl rfl (h _ p1) hs
theorem item_info1 (hI : InfoAt s.heap v I) (h : ∀ t, Q (.int I.c t) s)
    (hs : subscripted slice false (.ref v) (.int 1 u) = operate [.ref v, .int 1 u] (getItem (.ref v) (.int 1 u))) : wpAny (model prog w) A (subscriptTail value slice (.ref v) (.int 1 u)) Q E s := by
  obtain ⟨a, b, t1, t2, n, q, p1, p2⟩ := hI
  exact item_tupleT (tup_isTup q) (by decide) (by decide) (j := 1) rfl rfl (h _) hs
theorem item_info2 (hI : InfoAt s.heap v I) (h : ∀ a, PairAt s.heap a I.d I.e → Q (.ref a) s)
    (hs : subscripted slice false (.ref v) (.int 2 u) = operate [.ref v, .int 2 u] (getItem (.ref v) (.int 2 u))) : wpAny (model prog w) A (subscriptTail value slice (.ref v) (.int 2 u)) Q E s := by
  obtain ⟨a, b, t1, t2, n, q, p1, p2⟩ := hI
  exact item_tupleT (tup_isTup q) (by decide) (by decide) (j := 2) rfl rfl (h _ p2) hs
theorem item_info3 (hI : InfoAt s.heap v I) (h : ∀ t, Q (.int I.st t) s)
    (hs : subscripted slice false (.ref v) (.int 3 u) = operate [.ref v, .int 3 u] (getItem (.ref v) (.int 3 u))) : wpAny (model prog w) A (subscriptTail value slice (.ref v) (.int 3 u)) Q E s := by
  obtain ⟨a, b, t1, t2, n, q, p1, p2⟩ := hI
  exact item_tupleT (tup_isTup q) (by decide) (by decide) (j := 3) rfl rfl (h _) hs
theorem item_pair0 {x y : Int} (hI : PairAt s.heap v x y) (h : ∀ t, Q (.int x t) s)
    (hs : subscripted slice false (.ref v) (.int 0 u) = operate [.ref v, .int 0 u] (getItem (.ref v) (.int 0 u))) : wpAny (model prog w) A (subscriptTail value slice (.ref v) (.int 0 u)) Q E s := by
  obtain ⟨t1, t2, n, q⟩ := hI
  exact item_tupleT (tup_isTup q) (by decide) (by decide) (j := 0) rfl rfl (h _) hs
theorem item_pair1 {x y : Int} (hI : PairAt s.heap v x y) (h : ∀ t, Q (.int y t) s)
    (hs : subscripted slice false (.ref v) (.int 1 u) = operate [.ref v, .int 1 u] (getItem (.ref v) (.int 1 u))) : wpAny (model prog w) A (subscriptTail value slice (.ref v) (.int 1 u)) Q E s := by
  obtain ⟨t1, t2, n, q⟩ := hI
  exact item_tupleT (tup_isTup q) (by decide) (by decide) (j := 1) rfl rfl (h _) hs
end

section
variable {prog : Program} {w : World} {A : Around} {E : Value → Shared → Prop} {s : Shared} {h₀ hk : Heap} {L v : Addr} {m : Str → Option Value} {news : List (Addr × Obj)} {I : Info} {value slice : PySem.Expr} {u : Tok} {Q : Value → Shared → Prop}

theorem adjust_upto (n : Nat) : Builtin.Slice.sliceAdjust none (some 3) 1 ((n + 4 : Nat) : Int) = (0, 3) := by
  unfold Builtin.Slice.sliceAdjust
  have h1 : ¬ ((1 : Int) < 0) := by omega
  have h2 : ¬ ((3 : Int) < 0) := by omega
  simp only [h1, h2, if_false]
  congr 1
  omega
theorem applied_upto {sl : Addr} {u : Tok} {Q : Int × Int × Nat → Shared → Prop} (hs : s.heap.IsSliceOf sl .none (.int 3 u) .none) (h : Q (0, 1, 3) s) :
    wpAny (model prog w) A (Builtin.Slice.sliceApplied (.ref sl) (pure ((4 : Nat) : Int))) Q E s := by
  obtain ⟨os, hos, hcs, hds⟩ := id hs
  unfold Builtin.Slice.sliceApplied Builtin.Slice.sliceFields
  refine wpAny_bind (wpAny_bind (wpAny_field hos hds (x := .none) rfl (wpAny_bind (wpAny_field hos hds (x := .int 3 u) rfl (wpAny_bind (wpAny_field hos hds (x := .none) rfl (wpAny_pure ?_)))))))
  refine wpAny_bind (slicePart_none ?_)
  show wpAny _ _ (if ((1 : Int) == 0) = true then _ else _) _ _ s
  rw [if_neg (by decide)]
  refine wpAny_bind (slicePart_none (wpAny_bind (slicePart_int (wpAny_bind (wpAny_pure ?_)))))
  show wpAny _ _ (match Builtin.Slice.sliceAdjust none (some 3) 1 ((0 + 4 : Nat) : Int) with | (lo, hi) => pure (lo, (1 : Int), Builtin.Slice.slicePlaces lo hi 1)) _ _ s
  rw [adjust_upto 0]
  exact wpAny_pure h
theorem getItem_upto {t sl : Addr} {a b c d : Value} {n : Nat} {u : Tok} {Q : Value → Shared → Prop} (ho : s.heap.get? t = some (tupO [a, b, c, d] n)) (hs : s.heap.IsSliceOf sl .none (.int 3 u) .none)
    (h : Q (.ref s.heap.objs.size) { s with heap := s.heap.push (tupO [a, b, c] 0) }) : wpAny (model prog w) A (getItem (.ref t) (.ref sl)) Q E s := by
  have ht : IsTup s.heap t [a, b, c, d].toArray := tup_isTup ho
  obtain ⟨os, hos, hcs, hds⟩ := id hs
  have hTs : s.TypeIs (.ref sl) "slice" := ⟨os, hos, hcs⟩
  unfold getItem
  try with_reducible refine wpAny_holding ?_
  first | refine wpAny_bind (wpAny_pure ?_) | skip
  refine wpAny_bind (wpAny_sequenceKey ht.typeIs (by decide) ?_)
  refine wpAny_bind (wpAny_callSpecial?_slot (name := Str.ofString "__getitem__") ht.typeIs PyProof.Rows.slot_tuple_getitem
    (wpAny_call_entry PyProof.Rows.slot_tuple_getitem ht.typeIs PyProof.Rows.entry_tuple_getitem ?_ (PyProof.Rows.args_tuple_getitem _ _)))
  show wpAny _ _ (Builtin.Tuple.tupleItemsOf (.ref t) >>= _) _ _ s
  refine wpAny_bind (tupleItemsOf_ ht ?_)
  refine wpAny_bind (wpAny_typeOf hTs ?_)
  rw [if_pos (by decide)]
  refine wpAny_bind (applied_upto hs ?_)
  show wpAny _ _ (if ((0 : Int) == 0 && (1 : Int) == 1 && (3 == 4)) = true then _ else _) _ _ s
  rw [if_neg (by decide)]
  have hz : sizeOk (.seq ([a, b, c].toArray)) := by show [a, b, c].toArray.size ≤ sizeLine; rw [sizeLine_eq]; exact Nat.le_of_ble_eq_true rfl
  first
    | exact wpAny_bind (m := Builtin.Tuple.tupleExact _) (wpAny_newObj_type (wpAny_pure ⟨_, rfl, wpAny_pure h⟩) hz)
    | exact wpAny_bind (m := Builtin.Tuple.tupleExact _) (wpAny_newObj_type (wpAny_bind (wpAny_pure (wpAny_pure ⟨_, rfl, wpAny_pure h⟩))) hz)
    | exact wpAny_bind (wpAny_bind (m := Builtin.Tuple.tupleExact _) (wpAny_newObj_type (wpAny_pure (wpAny_pure ⟨_, rfl, wpAny_pure h⟩)) hz))
    | exact wpAny_bind (wpAny_bind (m := Builtin.Tuple.tupleExact _) (wpAny_newObj_type (wpAny_pure ⟨_, rfl, wpAny_pure h⟩) hz))

/-- info[:3] -/
theorem slice_info (F : Fr h₀ L s.heap m) (N : News h₀ L s.heap news) (hI : InfoAt hk v I) (kt : KeepT hk s.heap)
    (h : ∀ D h' sa ea t, Fr h₀ L h' m → News h₀ L h' ((D, tupO [.ref sa, .int I.c t, .ref ea] 0) :: news) → (∀ p ∈ news, p.1 < D) → PairAt hk sa I.a I.b → PairAt hk ea I.d I.e → Q (.ref D) { s with heap := h' })
    (hs : subscripted slice false (.ref v) (.ref s.heap.objs.size) = operate [.ref s.heap.objs.size, .ref v] (getItem (.ref v) (.ref s.heap.objs.size))) (hg : ∀ r, letTemporaryGo value (.ref v) r = pure ()) :
    wpAny (model prog w) A (subscriptTail value slice (.ref v) (.ref s.heap.objs.size)) Q E { s with heap := s.heap.push { cls := .type "slice", data := .fields #[.none, .int 3 u, .none] } } := by
  obtain ⟨sa, ea, t1, t2, n, q, p1, p2⟩ := hI
  have q' : (s.heap.push { cls := .type "slice", data := .fields #[.none, .int 3 u, .none] }).get? v = some (tupO [.ref sa, .int I.c t1, .ref ea, .int I.st t2] n) := Heap.get?_push_of_some _ (kt.get _ _ _ q)
  refine subscriptTail_ops (s := { s with heap := s.heap.push { cls := .type "slice", data := .fields #[.none, .int 3 u, .none] } }) (IsTup.typeIs (tup_isTup q')) PyProof.Rows.slot_tuple_getitem.lookup
    (getItem_upto q' (Heap.IsSliceOf.new ..) ?_) hs hg
  have N1 := News.push (F.push { cls := .type "slice", data := .fields #[.none, .int 3 u, .none] }) (N.grown fun _ _ e => Heap.get?_push_of_some _ e) (tupO [.ref sa, .int I.c t1, .ref ea] 0)
  rw [Heap.size_push] at N1
  show Q (.ref (s.heap.push _).objs.size) _
  rw [Heap.size_push]
  exact h _ _ sa ea t1 ((F.push _).push _) N1 (fun p hp => Nat.lt_succ_of_lt (Heap.lt_size (N p hp).1)) p1 p2
end

theorem own_of {g h : Heap} {L a : Addr} {o : Obj} {l : List (Addr × Obj)} (N : News g L h l) (hm : (a, o) ∈ l) : NewAt g L h a := ⟨(N _ hm).2.1, (N _ hm).2.2, o, (N _ hm).1⟩
theorem pair_reads {h : Heap} {v : Addr} {x y : Int} (p : PairAt h v x y) : Reads h (.ref v) (.tuple [.int x, .int y]) [] := by
  obtain ⟨t, u, n, q⟩ := p
  exact .tuple (as := [] ++ ([] ++ [])) q rfl rfl (.cons (.int _ _) (.cons (.int _ _) .nil))

theorem News.add {g h : Heap} {L x : Addr} {o : Obj} {l : List (Addr × Obj)} (n : NewAt g L h x) (e : h.get? x = some o) (N : News g L h l) : News g L h ((x, o) :: l) := fun p hp => by
  rcases List.mem_cons.mp hp with rfl | hp
  · exact ⟨e, n.1, n.2.1⟩
  · exact N p hp
theorem at_ne {h : Heap} {a b : Nat} {o o' : Obj} (e : h.get? a = some o) (e' : h.get? b = some o') (n : o.data ≠ o'.data) : a ≠ b := fun q => by
  subst q
  rw [e] at e'
  cases e'
  exact n rfl
theorem dne0 {d d' : Data} (h : Nat.beq d.ctorIdx d'.ctorIdx = false) : d ≠ d' := fun e => Nat.ne_of_beq_eq_false h (congrArg Data.ctorIdx e)
theorem cne {d d' d'' : Data} (e : d = d') (h : Nat.beq d'.ctorIdx d''.ctorIdx = false) : d ≠ d'' := fun q => dne0 h (e.symm.trans q)
theorem dne {o o' : Obj} (h : Nat.beq o.data.ctorIdx o'.data.ctorIdx = false) : o.data ≠ o'.data := fun e => Nat.ne_of_beq_eq_false h (congrArg Data.ctorIdx e)
theorem info_reads {h : Heap} {v : Addr} {I : Info} (i : InfoAt h v I) : Reads h (.ref v) (.tuple [.tuple [.int I.a, .int I.b], .int I.c, .tuple [.int I.d, .int I.e], .int I.st]) [] := by
  obtain ⟨s, e, t, u, n, q, p1, p2⟩ := i
  exact .tuple (as := [] ++ ([] ++ ([] ++ ([] ++ [])))) q rfl rfl (.cons (pair_reads p1) (.cons (.int _ _) (.cons (pair_reads p2) (.cons (.int _ _) .nil))))
theorem eqv_info (I J : Info) : PyData.eqv (.tuple [.tuple [.int I.a, .int I.b], .int I.c, .tuple [.int I.d, .int I.e], .int I.st]) (.tuple [.tuple [.int J.a, .int J.b], .int J.c, .tuple [.int J.d, .int J.e], .int J.st]) = decide (I = J) := by
  obtain ⟨a, b, c, d, e, f⟩ := I
  obtain ⟨a', b', c', d', e', f'⟩ := J
  simp only [PyData.eqv, PyData.eqvAll]
  rw [Bool.eq_iff_iff]
  simp only [Bool.and_eq_true, decide_eq_true_eq, and_true, and_assoc, beq_iff_eq, Info.mk.injEq]
section
variable {prog : Program} {w : World} {A : Around} {E : Value → Shared → Prop} {s : Shared} {v u : Addr} {I J : Info} {Q : Value → Shared → Prop}
theorem ne_info (i : InfoAt s.heap v I) (j : InfoAt s.heap u J) (hu : A.units + 64 < cLine) (h : Q (.bool (!decide (I = J))) s) : wpAny (model prog w) A (compareOp .NotEq (.ref v) (.ref u)) Q E s :=
  ne_dataH (info_reads i) (info_reads j) rfl rfl hu (by rw [eqv_info]; exact h)
end
def Info.ends (I J : Info) : Bool := decide (I.a = J.a ∧ I.b = J.b ∧ I.c = J.c ∧ I.d = J.d ∧ I.e = J.e)
theorem tri_reads {h : Heap} {v s e : Addr} {x y c d f : Int} {t : Tok} {n : Nat} (q : h.get? v = some (tupO [.ref s, .int c t, .ref e] n)) (p1 : PairAt h s x y) (p2 : PairAt h e d f) :
    Reads h (.ref v) (.tuple [.tuple [.int x, .int y], .int c, .tuple [.int d, .int f]]) [] := .tuple (as := [] ++ ([] ++ ([] ++ []))) q rfl rfl (.cons (pair_reads p1) (.cons (.int _ _) (.cons (pair_reads p2) .nil)))
theorem eqv_tri (a b c d e a' b' c' d' e' : Int) : PyData.eqv (.tuple [.tuple [.int a, .int b], .int c, .tuple [.int d, .int e]]) (.tuple [.tuple [.int a', .int b'], .int c', .tuple [.int d', .int e']])
    = decide (a = a' ∧ b = b' ∧ c = c' ∧ d = d' ∧ e = e') := by
  simp only [PyData.eqv, PyData.eqvAll]
  rw [Bool.eq_iff_iff]
  simp only [Bool.and_eq_true, decide_eq_true_eq, and_true, and_assoc, beq_iff_eq]
section
variable {prog : Program} {w : World} {A : Around} {E : Value → Shared → Prop} {s : Shared} {v : Addr} {I J : Info} {Q : Value → Shared → Prop}
theorem eq_tri {v s1 e1 u s2 e2 : Addr} {t1 t2 : Tok} {n1 n2 : Nat} (q : s.heap.get? v = some (tupO [.ref s1, .int I.c t1, .ref e1] n1)) (p1 : PairAt s.heap s1 I.a I.b) (p2 : PairAt s.heap e1 I.d I.e)
    (q' : s.heap.get? u = some (tupO [.ref s2, .int J.c t2, .ref e2] n2)) (p1' : PairAt s.heap s2 J.a J.b) (p2' : PairAt s.heap e2 J.d J.e) (hu : A.units + 64 < cLine)
    (h : Q (.bool (I.ends J)) s) : wpAny (model prog w) A (compareOp .Eq (.ref v) (.ref u)) Q E s :=
  eq_dataH (tri_reads q p1 p2) (tri_reads q' p1' p2') rfl rfl hu (by rw [eqv_tri]; exact h)
theorem ne_tri2 {v u : Addr} (i : TriAt s.heap v I) (j : TriAt s.heap u J) (hu : A.units + 64 < cLine) (h : Q (.bool (!I.ends J)) s) : wpAny (model prog w) A (compareOp .NotEq (.ref v) (.ref u)) Q E s := by
  obtain ⟨s1, e1, t1, n1, q, p1, p2⟩ := i
  obtain ⟨s2, e2, t2, n2, q', p1', p2'⟩ := j
  exact ne_dataH (tri_reads q p1 p2) (tri_reads q' p1' p2') rfl rfl hu (by rw [eqv_tri]; exact h)
theorem ne_tri {v s1 e1 u s2 e2 : Addr} {t1 t2 : Tok} {n1 n2 : Nat} (q : s.heap.get? v = some (tupO [.ref s1, .int I.c t1, .ref e1] n1)) (p1 : PairAt s.heap s1 I.a I.b) (p2 : PairAt s.heap e1 I.d I.e)
    (q' : s.heap.get? u = some (tupO [.ref s2, .int J.c t2, .ref e2] n2)) (p1' : PairAt s.heap s2 J.a J.b) (p2' : PairAt s.heap e2 J.d J.e) (hu : A.units + 64 < cLine)
    (h : Q (.bool (!I.ends J)) s) : wpAny (model prog w) A (compareOp .NotEq (.ref v) (.ref u)) Q E s :=
  ne_dataH (tri_reads q p1 p2) (tri_reads q' p1' p2') rfl rfl hu (by rw [eqv_tri]; exact h)
end

section
variable {prog : Program} {w : World} {A : Around} {E : Value → Shared → Prop} {s : Shared} {env : Env} {h₀ hk : Heap} {L v : Addr} {m : Str → Option Value} {news : List (Addr × Obj)} {I : Info} {elts : List PySem.Expr} {k : Nat} {pos : Pos} {Q : Unit → Shared → Prop}
theorem unpack_tup {vs : List Value} (F : Fr h₀ L s.heap m) (N : News h₀ L s.heap news) (hT : TupAt hk v vs) (kt : KeepT hk s.heap) (hh : A.handled = none) (hn : (assignEach elts env).length = vs.toArray.size) (hstar : (assignEach elts env).findIdx? (·.1) = none)
    (h : ∀ h', Fr h₀ L h' m → News h₀ L h' news → wpAny (model prog w) A (assignInOrder ((assignEach elts env).map (·.2)) vs) Q E { s with heap := h' }) :
    wpAny (model prog w) A (assign (.Tuple elts k pos) env (.ref v)) Q E s := by
  obtain ⟨n, q⟩ := hT
  exact unpackN_ F N (tup_isTup (kt.get _ _ _ q)) hh hn hstar h
theorem unpack_info (F : Fr h₀ L s.heap m) (N : News h₀ L s.heap news) (hI : InfoAt hk v I) (kt : KeepT hk s.heap) (hh : A.handled = none) (hn : (assignEach elts env).length = 4) (hstar : (assignEach elts env).findIdx? (·.1) = none)
    (h : ∀ h' sa ea t u, Fr h₀ L h' m → News h₀ L h' news → PairAt hk sa I.a I.b → PairAt hk ea I.d I.e → wpAny (model prog w) A (assignInOrder ((assignEach elts env).map (·.2)) [.ref sa, .int I.c t, .ref ea, .int I.st u]) Q E { s with heap := h' }) :
    wpAny (model prog w) A (assign (.Tuple elts k pos) env (.ref v)) Q E s := by
  obtain ⟨sa, ea, t, u, n, q, p1, p2⟩ := hI
  exact unpackN_ F N (tup_isTup (kt.get _ _ _ q)) hh hn hstar fun h' F' N' => h h' sa ea t u F' N' p1 p2
theorem k_at {K : Frag} {g h : Heap} {a : Addr} {o : Obj} (F : Fr g L h m) (X : K.In g) (e : K.lookup a = some o) : h.get? a = some o := F.keep _ _ (X _ _ e)
end

theorem wp_gentoks {α : Type} {M : Model} {A : Around} {t : Sem α} {Q : α → Shared → Prop} {E : Value → Shared → Prop} {h : Heap} {g : Array GenState} {d : Drawn} {X : Nat} {o : OsState} (k : ∀ tk, wpAny M A t Q E ⟨h, g, d, tk, o⟩) : wpAny M A t Q E ⟨h, g, d, X, o⟩ := k X
-- the library's k_gentoks looks for the count through the whole goal, at times for minutes
theorem lines_1 : True := by
  k_with "own execs cons" => (k_here; refine wp_gentoks ?_; intro tk'; refine wpAny_execs_cons ?_)
  trivial

theorem if_ff {a b : Prop} (h : b) : if false = true then a else b := h
theorem if_tt {a b : Prop} (h : a) : if true = true then a else b := h
theorem if_nff {a b : Prop} (h : a) : if (!false) = true then a else b := h
theorem if_ntt {a b : Prop} (h : b) : if (!true) = true then a else b := h
theorem lines_2 : True := by
  k_with "own ite" => first | refine if_ff ?_ | refine if_tt ?_ | refine if_nff ?_ | refine if_ntt ?_
  k_with "own mine sub" => (intro p hp; repeat (first | assumption | refine List.Mem.tail _ ?_))
  k_with "own mine keepT" => exact keepT_now (by k_asm) (by k_asm) (by k_asm) (by walk_at "mine sub") (by k_asm)
  k_with "own mine info" => first | assumption | (refine' KeepT.info ?kt_5 ?hi_5; (case hi_5 => assumption); (case kt_5 => walk_at "mine keepT"))
  k_with "own mine pair" => first | assumption | exact PairAt.mk _ _ _ (News.get (by k_asm) (by k_mem)) | (refine' KeepT.pair ?kt_6 ?hi_6; (case hi_6 => assumption); (case kt_6 => walk_at "mine keepT"))
  k_with "own mine newinfo" => exact InfoAt.of (News.get (by k_asm) (by k_mem)) (by walk_at "mine pair") (by walk_at "mine pair")
  k_with "own assign Tuple" => (k_here; (with_reducible show wpAny _ _ (assign (Expr.Tuple _ _ _) _ (Value.ref _)) _ _ _); k_dflt (refine' unpack_info ?F_8 ?N_8 ?i_8 ?kt_8 ?k4_8 ?k5_8 ?k6_8 ?_; (case F_8 => k_asm); (case N_8 => k_asm); (case i_8 => assumption); (case kt_8 => walk_at "mine keepT"); (case k4_8 => exact rfl); (case k5_8 => exact rfl); (case k6_8 => exact rfl)); intro h' sa' ea' t' u' F' N' pa' pb'; (try k_sweep))
  k_with "own assign Tuple" => (k_here; (with_reducible show wpAny _ _ (assign (Expr.Tuple _ _ _) _ (Value.ref _)) _ _ _); k_dflt (refine' unpack_tup ?F_9 ?N_9 ?i_9 ?kt_9 ?k4_9 ?k5_9 ?k6_9 ?_; (case F_9 => k_asm); (case N_9 => k_asm); (case i_9 => assumption); (case kt_9 => walk_at "mine keepT"); (case k4_9 => exact rfl); (case k5_9 => exact rfl); (case k6_9 => exact rfl)); intro h' F' N'; (try k_sweep))
  k_with "own mine tup" => first | assumption | exact TupAt.mk _ (News.get (by k_asm) (by k_mem)) | (refine' KeepT.tup ?kt_10 ?hi_10; (case hi_10 => assumption); (case kt_10 => walk_at "mine keepT"))
  k_with "own mine tri" => first | assumption | exact TriAt.of (News.get (by k_asm) (by k_mem)) (by walk_at "mine pair") (by walk_at "mine pair") | (refine' KeepT.tri ?kt_11 ?hi_11; (case hi_11 => assumption); (case kt_11 => walk_at "mine keepT"))
  k_with "own mine hs" => with_unfolding_all rfl
  trivial

local macro_rules | `(tactic| k_all) => `(tactic| exact rest_ne (by first | k_mem | simp))
local macro_rules | `(tactic| k_all) => `(tactic| (refine' List.forall_mem_cons.mpr ⟨?a, ?b⟩; (case a => k_ne); (case b => k_all)))
theorem lines_3 : True := by
  k_with "own subscriptTail Name Constant ref int" => (k_here; (with_reducible show wpAny _ _ (subscriptTail _ _ (Value.ref _) (Value.int 3 _)) _ _ _); k_dflt (refine' item_info3 ?i_13 ?_ ?s_13; (case i_13 => walk_at "mine info"); (case s_13 => walk_at "mine hs")); intro _)
  k_with "own subscriptTail Attribute Name Constant ref int" => (k_here; (with_reducible show wpAny _ _ (subscriptTail _ _ (Value.ref _) (Value.int 3 _)) _ _ _); k_dflt (refine' item_info3 ?i_14 ?_ ?s_14; (case i_14 => walk_at "mine info"); (case s_14 => walk_at "mine hs")); intro _)
  k_with "own subscriptTail Name Constant ref int" => (k_here; (with_reducible show wpAny _ _ (subscriptTail _ _ (Value.ref _) (Value.int 0 _)) _ _ _); k_dflt (refine' item_pair0 ?i_15 ?_ ?s_15; (case i_15 => walk_at "mine pair"); (case s_15 => walk_at "mine hs")); intro _)
  k_with "own subscriptTail Name Constant ref int" => (k_here; (with_reducible show wpAny _ _ (subscriptTail _ _ (Value.ref _) (Value.int 1 _)) _ _ _); k_dflt (refine' item_pair1 ?i_16 ?_ ?s_16; (case i_16 => walk_at "mine pair"); (case s_16 => walk_at "mine hs")); intro _)
  k_with "own subscriptTail Name Slice ref ref" => (k_here; k_dflt (refine' slice_info ?F_17 ?N_17 ?i_17 ?kt_17 ?_ ?s_17 ?t_17; (case F_17 => k_asm); (case N_17 => k_asm); (case i_17 => assumption); (case kt_17 => walk_at "mine keepT"); (case s_17 => walk_at "mine hs"); (case t_17 => kmk_pure)); intro D' h' sa' ea' t' F' N' l1 pa' pb'; (try k_lt l1); (try k_sweep))
  k_with "own mine at" => exact News.get (by k_asm) (by k_mem)
  k_with "own mine units" => first | exact units64 (by assumption) | ((try dsimp only [ktrTop]); (have hcL9 := cLine_is); omega)
  k_with "own compareOp Eq ref ref" => (k_here; k_dflt (refine' eq_tri ?q_20 ?p1_20 ?p2_20 ?r_20 ?p3_20 ?p4_20 ?u_20 ?_; (case q_20 => walk_at "mine at"); (case p1_20 => walk_at "mine pair"); (case p2_20 => walk_at "mine pair"); (case r_20 => walk_at "mine at"); (case p3_20 => walk_at "mine pair"); (case p4_20 => walk_at "mine pair"); (case u_20 => walk_at "mine units")))
  k_with "own compareOp NotEq ref ref" => (k_here; k_dflt (refine' ne_tri2 ?p1_21 ?p2_21 ?u_21 ?_; (case p1_21 => (refine' KeepT.tri ?kt_21 ?hi_21; (case hi_21 => assumption); (case kt_21 => walk_at "mine keepT"))); (case p2_21 => walk_at "mine tri"); (case u_21 => walk_at "mine units")))
  k_with "own compareOp NotEq ref ref" => (k_here; k_dflt (refine' ne_tri ?q_22 ?p1_22 ?p2_22 ?r_22 ?p3_22 ?p4_22 ?u_22 ?_; (case q_22 => walk_at "mine at"); (case p1_22 => walk_at "mine pair"); (case p2_22 => walk_at "mine pair"); (case r_22 => walk_at "mine at"); (case p3_22 => walk_at "mine pair"); (case p4_22 => walk_at "mine pair"); (case u_22 => walk_at "mine units")))
  k_with "own compareOp NotEq ref ref" => (k_here; k_dflt (refine' ne_info ?p1_23 ?p2_23 ?u_23 ?_; (case p1_23 => walk_at "mine info"); (case p2_23 => walk_at "mine info"); (case u_23 => walk_at "mine units")))
  trivial

local macro_rules | `(tactic| ked_read) => `(tactic| exact pair_reads (by walk_at "mine pair"))

-- a call without arguments: the library's line looks for the written part through all facts, slowly
theorem lines_4 : True := by
  k_with "own callWith ref" => (k_here; (with_reducible show wpAny _ _ (callWith _ (Value.ref _) _ (backTo _ (starEach [] _)) []) _ _ _); k_dflt (refine' callWith_K0 ?k1_24 ?k2_24 ?_; (case k1_24 => exact Frag.In.keeps (by with_reducible assumption) (Fr.keep (by with_reducible assumption))); (case k2_24 => k_is); k_whole))
  k_with "own mine use" => ((case kB => k_asm); (case kF => k_asm); (case kX => k_asm); (case kT => k_asm); (case kk => first | exact rfl | assumption))
  trivial

theorem room_ok {dp n k : Nat} (h : dp + k ≤ recursionLimit) (e : Nat.ble (n + 1) k = true) : dp + n < recursionLimit := Nat.lt_of_lt_of_le (Nat.add_lt_add_left (Nat.le_of_ble_eq_true e) dp) h
theorem units_ok {un n k : Nat} (h : un + 8 * k + 192 < cLine) (e : Nat.ble (8 * n + 8) (8 * k) = true) : un + 8 * n + 200 < cLine := by
  have := Nat.le_of_ble_eq_true e
  omega
theorem units64 {un k : Nat} (h : un + 8 * k + 192 < cLine) : un + 64 < cLine := by omega
theorem lines_5 : True := by
  k_with "own mine room" => ((case kd => first | exact room_ok (by with_reducible assumption) (by exact rfl) | ktr_room); (case ku => first | exact units_ok (by with_reducible assumption) (by exact rfl) | ktr_units))
  trivial

local macro_rules | `(tactic| k_ne) => `(tactic| first | with_reducible assumption | exact Ne.symm (by with_reducible assumption) | fail)
theorem lines_6 : True := by
  k_with "own mine none" => exact fun _ hx => nomatch hx
  k_with "own mine hb" => (intro _ _; first | exact BindsTo.of_eq rfl | exact binds_K (by assumption) rfl (by k_is) rfl rfl rfl)
  k_with "own mine kept" => exact kept_since (by k_asm) (by k_asm) (by k_asm) (by k_asm) (by walk_at "mine sub")
  k_with "own mine neall" => first | exact List.forall_mem_nil _ | (refine' List.forall_mem_cons.mpr ⟨?a_30, ?b_30⟩; (case a_30 => first | assumption | k_ne); (case b_30 => walk_at "mine neall"))
  k_with "own mine inall" => first | exact List.forall_mem_nil _ | (refine' List.forall_mem_cons.mpr ⟨?a_31, ?b_31⟩; (case a_31 => first | k_mem | simp); (case b_31 => walk_at "mine inall"))
  k_with "own mine re" => first | (refine' Re.rest ?a_32; (case a_32 => walk_at "mine inall")) | (refine' Re.swap ?a_32 ?b_32; (case a_32 => assumption); (case b_32 => walk_at "mine re")) | (refine' Re.keep ?a_32 ?b_32; (case a_32 => walk_at "mine neall"); (case b_32 => walk_at "mine re"))
  k_with "own mine ren" => first | exact Re.anew | (refine' Re.swap ?a_33 ?b_33; (case a_33 => assumption); (case b_33 => walk_at "mine ren")) | (refine' Re.keep ?a_33 ?b_33; (case a_33 => walk_at "mine neall"); (case b_33 => walk_at "mine ren"))
  k_with "own mine notup1" => first | exact list_noTup | exact dict_noTup | exact inst_noTup
  k_with "own mine notup" => first | exact NoTup.nil | (refine' NoTup.cons ?a_35 ?b_35 ?c_35; (case a_35 => exact News.get (by k_asm) (by k_mem)); (case b_35 => walk_at "mine notup1"); (case c_35 => walk_at "mine notup"))
  k_with "own mine own" => first | exact List.forall_mem_nil _ | (refine' List.forall_mem_cons.mpr ⟨?a_36, ?b_36⟩; (case a_36 => exact own_of (by k_asm) (by k_mem)); (case b_36 => walk_at "mine own"))
  k_with "own mine after" => ((with_reducible rename Keep _ _ _ _ => kK); refine' after_k kK ?kN_37 ?kR_37 ?_; (case kN_37 => k_asm); (case kR_37 => walk_at "mine re"); intro N'; clear kK; (try k_sweep))
  k_with "own mine anew" => ((with_reducible rename Keep _ _ _ _ => kK); (with_reducible rename Anc _ _ => kA); (with_reducible rename NoTup _ _ => kZ); (with_reducible rename Since _ _ _ _ => kS); refine' anew_k kK ?kF ?kN_38 kA ?kG_38 ?ks_38 kZ ?kM_38 ?kZM_38 ?kR_38 kS ?kZ2_38 ?_; (case kF => k_asm); (case kN_38 => k_asm); (case kG_38 => k_asm); (case ks_38 => walk_at "mine sub"); (case kM_38 => walk_at "mine inall"); (case kZM_38 => walk_at "mine notup"); (case kR_38 => walk_at "mine ren"); (case kZ2_38 => (intro kN2; walk_at "mine notup")); intro kA' kN' kZ' kT' kS'; clear kK kA kZ kS; (try k_sweep); (repeat ((with_reducible rename TupAt _ _ _ => kI); (first | replace kI := KeepT.tup kT' kI | skip); revert kI)); (repeat ((with_reducible rename TriAt _ _ _ => kI); (first | replace kI := KeepT.tri kT' kI | skip); revert kI)); (repeat ((with_reducible rename PairAt _ _ _ _ => kI); (first | replace kI := KeepT.pair kT' kI | skip); revert kI)); (repeat ((with_reducible rename InfoAt _ _ _ => kI); (first | replace kI := KeepT.info kT' kI | skip); revert kI)); intros; clear kT')
  trivial

theorem all_info {h h' : Heap} {v : Addr} {I : Info} (k : ∀ a o, h.get? a = some o → h'.get? a = some o) (i : InfoAt h v I) : InfoAt h' v I := KeepT.info ⟨fun _ _ _ e => k _ _ e⟩ i
theorem all_pair {h h' : Heap} {v : Addr} {x y : Int} (k : ∀ a o, h.get? a = some o → h'.get? a = some o) (i : PairAt h v x y) : PairAt h' v x y := KeepT.pair ⟨fun _ _ _ e => k _ _ e⟩ i

-- text C1
theorem text_C1 : True := by
  w_top off
  trivial

/-- has a state a bit; a state with a bit or without -/
def hb (st b : Int) : Bool := Builtin.bitAnd st b != 0
def wb (st b : Int) (z : Bool) : Int := if z then Builtin.bitOr st b else Builtin.bitOr st b - b
def Info.put (I : Info) (b : Int) (z : Bool) : Info := ⟨I.a, I.b, I.c, I.d, I.e, wb I.st b z⟩
def Info.same (I J : Info) : Bool := I.ends J && (hb I.st 4 == hb J.st 4)

set_option maxHeartbeats 2000000 in
theorem has_bit_ok (w : World) (v : Addr) (I : Info) (b : Int) (t : Tok) :
    Does w 60 1 [.ref v, .int b t] [] [] (fun h => InfoAt h v I) (fun h r h' => r = .bool (hb I.st b)) := by
  have key : model PySem.Challenge.rw_xm0983_01.row.prog w = model PySem.Challenge.rw_xm0983_01.row.prog w → hd.heap_1 w.params = hd.heap_1 w.params →
      Does w 60 1 [.ref v, .int b t] [] [] (fun h => InfoAt h v I) (fun h r h' => r = .bool (hb I.st b)) := by
    k_fill
    intro _ _
    refine' does_of (binds := [(Str.ofString "info", Value.ref v), (Str.ofString "bit", Value.int b t)]) ?up ?dn (by decide) ?ho ?hcd ?hb ?hl ?c1 ?c2 ?c3 ?c4 ?_
    case ho => k_is
    case hcd => k_is
    case hb => walk_at "mine hb"
    case hl => exact locs rfl
    case c1 => exact rfl
    case c2 => exact rfl
    case c3 => exact rfl
    case c4 => decide
    case up => exact fun h h' k p => all_info k p
    case dn => exact fun h h' r h'' k p => p
    intro dp un gd outer A₀ base g L s Q E mean mg mb B F X T hmut hpre hd hu hret
    have AN : Anc g s.heap := ⟨fun b o e => F.keep b o e⟩
    have AK : Since [] L s.heap s.heap := Since.refl
    have NT : NoTup s.heap [L] := Fr.noTup F NoTup.nil
    have N : News g L s.heap (restOf g L s.heap []) := rest_news
    with_reducible show wpAny _ _ _ _ _ _
    k_steps
    all_goals (try dsimp only)
    all_goals refine hret _ _ _ _ (by k_asm) (by walk_at "mine kept") ?_
    all_goals rfl
  exact key rfl rfl

theorem lines_7 : True := by
  k_with "own call ref" => (k_here; (with_reducible show wpAny _ _ (call (Value.ref 60) _) _ _ _); k_dflt (refine' Does.use (has_bit_ok _ _ _ _ _) ?kB ?kF ?kX ?kT ?kk ?km_39 ?kp_39 ?kd ?ku ?_; walk_at "mine use"; (case kp_39 => walk_at "mine info"); (case km_39 => walk_at "mine own"); walk_at "mine room"); intro r' h' tk' F' K' P'; walk_at "mine after"; subst P')
  trivial

set_option maxHeartbeats 2000000 in
theorem is_same_end_ok (w : World) (v u : Addr) (I J : Info) :
    Does w 215 2 [.ref v, .ref u] [] [] (fun h => InfoAt h v I ∧ InfoAt h u J) (fun h r h' => r = .bool (I.same J)) := by
  have key : model PySem.Challenge.rw_xm0983_01.row.prog w = model PySem.Challenge.rw_xm0983_01.row.prog w → hd.heap_1 w.params = hd.heap_1 w.params →
      Does w 215 2 [.ref v, .ref u] [] [] (fun h => InfoAt h v I ∧ InfoAt h u J) (fun h r h' => r = .bool (I.same J)) := by
    k_fill
    intro _ _
    refine' does_of (binds := [(Str.ofString "one", Value.ref v), (Str.ofString "other", Value.ref u)]) ?up ?dn (by decide) ?ho ?hcd ?hb ?hl ?c1 ?c2 ?c3 ?c4 ?_
    case ho => k_is
    case hcd => k_is
    case hb => walk_at "mine hb"
    case hl => exact locs rfl
    case c1 => exact rfl
    case c2 => exact rfl
    case c3 => exact rfl
    case c4 => decide
    case up => exact fun h h' k p => ⟨all_info k p.1, all_info k p.2⟩
    case dn => exact fun h h' r h'' k p => p
    intro dp un gd outer A₀ base g L s Q E mean mg mb B F X T hmut hpre hd hu hret
    have AN : Anc g s.heap := ⟨fun b o e => F.keep b o e⟩
    have AK : Since [] L s.heap s.heap := Since.refl
    obtain ⟨hI, hJ⟩ := hpre
    have NT : NoTup s.heap [L] := Fr.noTup F NoTup.nil
    have N : News g L s.heap (restOf g L s.heap []) := rest_news
    with_reducible show wpAny _ _ _ _ _ _
    k_steps
    all_goals (try dsimp only)
    all_goals refine hret _ _ _ _ (by k_asm) (by walk_at "mine kept") ?_
    all_goals simp_all [Info.same]
  exact key rfl rfl

theorem lines_8 : True := by
  k_with "own call ref" => (k_here; (with_reducible show wpAny _ _ (call (Value.ref 215) _) _ _ _); k_dflt (refine' Does.use (is_same_end_ok _ _ _ _ _) ?kB ?kF ?kX ?kT ?kk ?km_40 ?kp_40 ?kd ?ku ?_; walk_at "mine use"; (case kp_40 => exact ⟨by walk_at "mine info", by walk_at "mine info"⟩); (case km_40 => walk_at "mine own"); walk_at "mine room"); intro r' h' tk' F' K' P'; walk_at "mine after"; subst P')
  trivial

set_option maxHeartbeats 2000000 in
theorem with_bit_ok (w : World) (v : Addr) (I : Info) (b : Int) (t : Tok) (z : Bool) :
    Does w 67 1 [.ref v, .int b t, .bool z] [] [] (fun h => InfoAt h v I) (fun h r h' => ∃ v', r = .ref v' ∧ InfoAt h' v' (I.put b z)) := by
  have key : model PySem.Challenge.rw_xm0983_01.row.prog w = model PySem.Challenge.rw_xm0983_01.row.prog w → hd.heap_1 w.params = hd.heap_1 w.params →
      Does w 67 1 [.ref v, .int b t, .bool z] [] [] (fun h => InfoAt h v I) (fun h r h' => ∃ v', r = .ref v' ∧ InfoAt h' v' (I.put b z)) := by
    k_fill
    intro _ _
    refine' does_of (binds := [(Str.ofString "info", Value.ref v), (Str.ofString "bit", Value.int b t), (Str.ofString "is_set", Value.bool z)]) ?up ?dn (by decide) ?ho ?hcd ?hb ?hl ?c1 ?c2 ?c3 ?c4 ?_
    case ho => k_is
    case hcd => k_is
    case hb => walk_at "mine hb"
    case hl => exact locs rfl
    case c1 => exact rfl
    case c2 => exact rfl
    case c3 => exact rfl
    case c4 => decide
    case up => exact fun h h' k p => all_info k p
    case dn => exact fun h h' r h'' k p => p
    intro dp un gd outer A₀ base g L s Q E mean mg mb B F X T hmut hpre hd hu hret
    have AN : Anc g s.heap := ⟨fun b o e => F.keep b o e⟩
    have AK : Since [] L s.heap s.heap := Since.refl
    have NT : NoTup s.heap [L] := Fr.noTup F NoTup.nil
    have N : News g L s.heap (restOf g L s.heap []) := rest_news
    with_reducible show wpAny _ _ _ _ _ _
    k_steps
    all_goals (try dsimp only)
    all_goals refine hret _ _ _ _ (by k_asm) (by walk_at "mine kept") ?_
    all_goals (rename z = _ => hz; subst hz)
    all_goals exact ⟨_, rfl, InfoAt.mk _ _ _ _ _ (News.get (by k_asm) (by k_mem)) (by walk_at "mine pair") (by walk_at "mine pair")⟩
  exact key rfl rfl

theorem lines_9 : True := by
  k_with "own call ref" => (k_here; (with_reducible show wpAny _ _ (call (Value.ref 67) _) _ _ _); k_dflt (refine' Does.use (with_bit_ok _ _ _ _ _ _) ?kB ?kF ?kX ?kT ?kk ?km_41 ?kp_41 ?kd ?ku ?_; walk_at "mine use"; (case kp_41 => walk_at "mine info"); (case km_41 => walk_at "mine own"); walk_at "mine room"); intro r' h' tk' F' K' P'; obtain ⟨v', e', i'⟩ := P'; subst e'; walk_at "mine anew")
  trivial

-- text C2
theorem text_C2 : True := by
  w_top off
  trivial

/-- what a port is about -/
structure PS where
  row : Addr
  A : Info
  B : Info
  heard : Str
  left : Int
  choice : Str
  turn : Int
  send : Bool
-- the entries of its dict, seen by what is read and stored alone
inductive PEs (w : World) (row av pv : Addr) (heard : Str) (left : Int) (choice : Str) (turn : Int) (send : Bool) (es : List DictEntry) : Prop where
  | mk {k0 k1 k2 k3 k4 k5 k6 k7 k8 k9 k10 k11 t3 t4 t5 t9 : Tok} {x6 x7 x8 x11 : Value} : es = [⟨PyData.keyHash w.params (Str.ofString "row"), .str (Str.ofString "row") k0, .ref row⟩, ⟨PyData.keyHash w.params (Str.ofString "actor"), .str (Str.ofString "actor") k1, .ref av⟩, ⟨PyData.keyHash w.params (Str.ofString "partner"), .str (Str.ofString "partner") k2, .ref pv⟩, ⟨PyData.keyHash w.params (Str.ofString "heard"), .str (Str.ofString "heard") k3, .str heard t3⟩, ⟨PyData.keyHash w.params (Str.ofString "heard_left"), .str (Str.ofString "heard_left") k4, .int left t4⟩, ⟨PyData.keyHash w.params (Str.ofString "choice"), .str (Str.ofString "choice") k5, .str choice t5⟩, ⟨PyData.keyHash w.params (Str.ofString "mux"), .str (Str.ofString "mux") k6, x6⟩, ⟨PyData.keyHash w.params (Str.ofString "bundle"), .str (Str.ofString "bundle") k7, x7⟩, ⟨PyData.keyHash w.params (Str.ofString "join_left"), .str (Str.ofString "join_left") k8, x8⟩, ⟨PyData.keyHash w.params (Str.ofString "turn_left"), .str (Str.ofString "turn_left") k9, .int turn t9⟩, ⟨PyData.keyHash w.params (Str.ofString "must_send"), .str (Str.ofString "must_send") k10, .bool send⟩, ⟨PyData.keyHash w.params (Str.ofString "sent_many"), .str (Str.ofString "sent_many") k11, x11⟩] → PEs w row av pv heard left choice turn send es
inductive PortAt (w : World) (h : Heap) (p dx : Addr) : PS → Prop where
  | mk {row : Addr} {A B : Info} {heard : Str} {left : Int} {choice : Str} {turn : Int} {send : Bool} {es : List DictEntry} {av pv : Addr} :
      h.get? p = some (instObj 190 dx) → h.get? dx = some (dictOf es 12) → PEs w row av pv heard left choice turn send es → InfoAt h av A → InfoAt h pv B → PortAt w h p dx ⟨row, A, B, heard, left, choice, turn, send⟩
inductive PortH (w : World) (h : Heap) (p dx row : Addr) (A B : Info) (heard : Str) (left : Int) (choice : Str) (turn : Int) (send : Bool) : Prop where
  | mk {es : List DictEntry} {av pv : Addr} : h.get? p = some (instObj 190 dx) → h.get? dx = some (dictOf es 12) → PEs w row av pv heard left choice turn send es → InfoAt h av A → InfoAt h pv B → PortH w h p dx row A B heard left choice turn send
theorem PortAt.out {w : World} {h : Heap} {p dx row : Addr} {A B : Info} {heard : Str} {left : Int} {choice : Str} {turn : Int} {send : Bool} : PortAt w h p dx ⟨row, A, B, heard, left, choice, turn, send⟩ → PortH w h p dx row A B heard left choice turn send
  | .mk a b e c d => .mk a b e c d
theorem PortAt.up {w : World} {h h' : Heap} {p dx : Addr} {P : PS} (k : ∀ a o, h.get? a = some o → h'.get? a = some o) : PortAt w h p dx P → PortAt w h' p dx P
  | .mk a b e c d => .mk (k _ _ a) (k _ _ b) e (all_info k c) (all_info k d)
section
variable {prog : Program} {w : World} {A : Around} {E : Value → Shared → Prop} {s : Shared} {K : Frag} {C L x dx : Addr} {ox : Obj} {h₀ : Heap} {m : Str → Option Value} {news : List (Addr × Obj)} {name : Str} {v : Value} {n : Nat}
  {row av pv : Addr} {heard : Str} {left : Int} {choice : Str} {turn : Int} {send : Bool} {es : List DictEntry}
theorem get_own_t {expr : Bool} {Q : Value → Shared → Prop} {mk : Tok → Value} {attr : Option Value} (F : Fr h₀ L s.heap m) (X₀ : K.In h₀) (I : InstAt s.heap x ox C (some (dictOf es n))) (hg : plainGet K C name = true) (hh : hasDictIn K C = true)
    (ha : findIn K (.ref C) name = some attr) (hn : noGet K attr = true) (hl : ∃ t, getL name es = some (some (mk t))) (hv : ∀ t, handedIn (mk t) = true) (h : ∀ t, Q (mk t) { s with toks := s.toks + 1 }) :
    wpAny (model prog w) A (getAttr (.ref x) name expr) Q E s := by
  obtain ⟨t, e⟩ := hl
  exact get_own F X₀ I hg hh ha hn e (hv t) (h t)
/-- a store under a key that is there -/
inductive PutP (name : Str) (v : Value) (es : List DictEntry) (R : List DictEntry → Prop) : Prop where
  | mk (es' : List DictEntry) : (∀ hs k, putL name hs k v es = es') → putN name es 12 = 12 → es'.length ≤ 1000 → (getL name es).isSome = true → R es' → PutP name v es R
theorem set_port {R : List DictEntry → Prop} {Q : Unit → Shared → Prop} (F : Fr h₀ L s.heap m) (X₀ : K.In h₀) (N : News h₀ L s.heap news) (I : InstAt s.heap x ox C (some (dictOf es 12))) (hd : ox.dict = some dx)
    (hs : findIn K (.ref C) "__setattr__" = some (some (.builtin "object.__setattr__"))) (hp : plainOver K C = true) (ht : takerIn K C name = some none) (hh : hasDictIn K C = true) (put : PutP name v es R)
    (h : ∀ es', R es' → ∃ news', Upd dx (dictOf es 12) (dictOf es' 12) news news' ∧ ∀ h', Fr h₀ L h' m → News h₀ L h' news' → Q () { s with heap := h', toks := s.toks + 2 }) :
    wpAny (model prog w) A (setAttr (.ref x) name v) Q E s := by
  obtain ⟨es', e1, e2, e3, e4, r⟩ := put
  obtain ⟨news', U, k⟩ := h es' r
  exact set_dict F X₀ N I hd hs hp ht hh e4 (by rw [e1, e2]) U e3 k
theorem PEs.gets (h : PEs w row av pv heard left choice turn send es) : getL (Str.ofString "row") es = some (some (.ref row)) ∧ getL (Str.ofString "actor") es = some (some (.ref av)) ∧ getL (Str.ofString "partner") es = some (some (.ref pv)) ∧ getL (Str.ofString "must_send") es = some (some (.bool send)) := by
  obtain @⟨k0, k1, k2, k3, k4, k5, k6, k7, k8, k9, k10, k11, t3, t4, t5, t9, x6, x7, x8, x11, rfl⟩ := h
  exact ⟨by kernel_rfl, by kernel_rfl, by kernel_rfl, by kernel_rfl⟩
theorem PEs.getsT (h : PEs w row av pv heard left choice turn send es) : (∃ t, getL (Str.ofString "heard") es = some (some (.str heard t))) ∧ (∃ t, getL (Str.ofString "heard_left") es = some (some (.int left t))) ∧ (∃ t, getL (Str.ofString "choice") es = some (some (.str choice t))) ∧ (∃ t, getL (Str.ofString "turn_left") es = some (some (.int turn t))) := by
  obtain @⟨k0, k1, k2, k3, k4, k5, k6, k7, k8, k9, k10, k11, t3, t4, t5, t9, x6, x7, x8, x11, rfl⟩ := h
  exact ⟨⟨t3, by kernel_rfl⟩, ⟨t4, by kernel_rfl⟩, ⟨t5, by kernel_rfl⟩, ⟨t9, by kernel_rfl⟩⟩
theorem PEs.none (h : PEs w row av pv heard left choice turn send es) : getL (Str.ofString "own") es = some none ∧ getL (Str.ofString "others") es = some none ∧ getL (Str.ofString "set_own") es = some none ∧ getL (Str.ofString "is_up") es = some none ∧ getL (Str.ofString "turn") es = some none ∧ getL (Str.ofString "heard_wait") es = some none ∧ getL (Str.ofString "told_bits") es = some none := by
  obtain @⟨k0, k1, k2, k3, k4, k5, k6, k7, k8, k9, k10, k11, t3, t4, t5, t9, x6, x7, x8, x11, rfl⟩ := h
  exact ⟨by kernel_rfl, by kernel_rfl, by kernel_rfl, by kernel_rfl, by kernel_rfl, by kernel_rfl, by kernel_rfl⟩
theorem PEs.p_actor {y : Addr} (h : PEs w row av pv heard left choice turn send es) : PutP (Str.ofString "actor") (.ref y) es (PEs w row y pv heard left choice turn send) := by
  obtain @⟨k0, k1, k2, k3, k4, k5, k6, k7, k8, k9, k10, k11, t3, t4, t5, t9, x6, x7, x8, x11, rfl⟩ := h
  exact .mk [⟨PyData.keyHash w.params (Str.ofString "row"), .str (Str.ofString "row") k0, .ref row⟩, ⟨PyData.keyHash w.params (Str.ofString "actor"), .str (Str.ofString "actor") k1, .ref y⟩, ⟨PyData.keyHash w.params (Str.ofString "partner"), .str (Str.ofString "partner") k2, .ref pv⟩, ⟨PyData.keyHash w.params (Str.ofString "heard"), .str (Str.ofString "heard") k3, .str heard t3⟩, ⟨PyData.keyHash w.params (Str.ofString "heard_left"), .str (Str.ofString "heard_left") k4, .int left t4⟩, ⟨PyData.keyHash w.params (Str.ofString "choice"), .str (Str.ofString "choice") k5, .str choice t5⟩, ⟨PyData.keyHash w.params (Str.ofString "mux"), .str (Str.ofString "mux") k6, x6⟩, ⟨PyData.keyHash w.params (Str.ofString "bundle"), .str (Str.ofString "bundle") k7, x7⟩, ⟨PyData.keyHash w.params (Str.ofString "join_left"), .str (Str.ofString "join_left") k8, x8⟩, ⟨PyData.keyHash w.params (Str.ofString "turn_left"), .str (Str.ofString "turn_left") k9, .int turn t9⟩, ⟨PyData.keyHash w.params (Str.ofString "must_send"), .str (Str.ofString "must_send") k10, .bool send⟩, ⟨PyData.keyHash w.params (Str.ofString "sent_many"), .str (Str.ofString "sent_many") k11, x11⟩] (fun _ _ => by kernel_rfl) (by kernel_rfl) (Nat.le_of_ble_eq_true (by kernel_rfl)) (by kernel_rfl) (.mk rfl)
theorem PEs.p_partner {y : Addr} (h : PEs w row av pv heard left choice turn send es) : PutP (Str.ofString "partner") (.ref y) es (PEs w row av y heard left choice turn send) := by
  obtain @⟨k0, k1, k2, k3, k4, k5, k6, k7, k8, k9, k10, k11, t3, t4, t5, t9, x6, x7, x8, x11, rfl⟩ := h
  exact .mk [⟨PyData.keyHash w.params (Str.ofString "row"), .str (Str.ofString "row") k0, .ref row⟩, ⟨PyData.keyHash w.params (Str.ofString "actor"), .str (Str.ofString "actor") k1, .ref av⟩, ⟨PyData.keyHash w.params (Str.ofString "partner"), .str (Str.ofString "partner") k2, .ref y⟩, ⟨PyData.keyHash w.params (Str.ofString "heard"), .str (Str.ofString "heard") k3, .str heard t3⟩, ⟨PyData.keyHash w.params (Str.ofString "heard_left"), .str (Str.ofString "heard_left") k4, .int left t4⟩, ⟨PyData.keyHash w.params (Str.ofString "choice"), .str (Str.ofString "choice") k5, .str choice t5⟩, ⟨PyData.keyHash w.params (Str.ofString "mux"), .str (Str.ofString "mux") k6, x6⟩, ⟨PyData.keyHash w.params (Str.ofString "bundle"), .str (Str.ofString "bundle") k7, x7⟩, ⟨PyData.keyHash w.params (Str.ofString "join_left"), .str (Str.ofString "join_left") k8, x8⟩, ⟨PyData.keyHash w.params (Str.ofString "turn_left"), .str (Str.ofString "turn_left") k9, .int turn t9⟩, ⟨PyData.keyHash w.params (Str.ofString "must_send"), .str (Str.ofString "must_send") k10, .bool send⟩, ⟨PyData.keyHash w.params (Str.ofString "sent_many"), .str (Str.ofString "sent_many") k11, x11⟩] (fun _ _ => by kernel_rfl) (by kernel_rfl) (Nat.le_of_ble_eq_true (by kernel_rfl)) (by kernel_rfl) (.mk rfl)
theorem PEs.p_heard {y : Str} {t : Tok} (h : PEs w row av pv heard left choice turn send es) : PutP (Str.ofString "heard") (.str y t) es (PEs w row av pv y left choice turn send) := by
  obtain @⟨k0, k1, k2, k3, k4, k5, k6, k7, k8, k9, k10, k11, t3, t4, t5, t9, x6, x7, x8, x11, rfl⟩ := h
  exact .mk [⟨PyData.keyHash w.params (Str.ofString "row"), .str (Str.ofString "row") k0, .ref row⟩, ⟨PyData.keyHash w.params (Str.ofString "actor"), .str (Str.ofString "actor") k1, .ref av⟩, ⟨PyData.keyHash w.params (Str.ofString "partner"), .str (Str.ofString "partner") k2, .ref pv⟩, ⟨PyData.keyHash w.params (Str.ofString "heard"), .str (Str.ofString "heard") k3, .str y t⟩, ⟨PyData.keyHash w.params (Str.ofString "heard_left"), .str (Str.ofString "heard_left") k4, .int left t4⟩, ⟨PyData.keyHash w.params (Str.ofString "choice"), .str (Str.ofString "choice") k5, .str choice t5⟩, ⟨PyData.keyHash w.params (Str.ofString "mux"), .str (Str.ofString "mux") k6, x6⟩, ⟨PyData.keyHash w.params (Str.ofString "bundle"), .str (Str.ofString "bundle") k7, x7⟩, ⟨PyData.keyHash w.params (Str.ofString "join_left"), .str (Str.ofString "join_left") k8, x8⟩, ⟨PyData.keyHash w.params (Str.ofString "turn_left"), .str (Str.ofString "turn_left") k9, .int turn t9⟩, ⟨PyData.keyHash w.params (Str.ofString "must_send"), .str (Str.ofString "must_send") k10, .bool send⟩, ⟨PyData.keyHash w.params (Str.ofString "sent_many"), .str (Str.ofString "sent_many") k11, x11⟩] (fun _ _ => by kernel_rfl) (by kernel_rfl) (Nat.le_of_ble_eq_true (by kernel_rfl)) (by kernel_rfl) (.mk rfl)
theorem PEs.p_heard_left {y : Int} {t : Tok} (h : PEs w row av pv heard left choice turn send es) : PutP (Str.ofString "heard_left") (.int y t) es (PEs w row av pv heard y choice turn send) := by
  obtain @⟨k0, k1, k2, k3, k4, k5, k6, k7, k8, k9, k10, k11, t3, t4, t5, t9, x6, x7, x8, x11, rfl⟩ := h
  exact .mk [⟨PyData.keyHash w.params (Str.ofString "row"), .str (Str.ofString "row") k0, .ref row⟩, ⟨PyData.keyHash w.params (Str.ofString "actor"), .str (Str.ofString "actor") k1, .ref av⟩, ⟨PyData.keyHash w.params (Str.ofString "partner"), .str (Str.ofString "partner") k2, .ref pv⟩, ⟨PyData.keyHash w.params (Str.ofString "heard"), .str (Str.ofString "heard") k3, .str heard t3⟩, ⟨PyData.keyHash w.params (Str.ofString "heard_left"), .str (Str.ofString "heard_left") k4, .int y t⟩, ⟨PyData.keyHash w.params (Str.ofString "choice"), .str (Str.ofString "choice") k5, .str choice t5⟩, ⟨PyData.keyHash w.params (Str.ofString "mux"), .str (Str.ofString "mux") k6, x6⟩, ⟨PyData.keyHash w.params (Str.ofString "bundle"), .str (Str.ofString "bundle") k7, x7⟩, ⟨PyData.keyHash w.params (Str.ofString "join_left"), .str (Str.ofString "join_left") k8, x8⟩, ⟨PyData.keyHash w.params (Str.ofString "turn_left"), .str (Str.ofString "turn_left") k9, .int turn t9⟩, ⟨PyData.keyHash w.params (Str.ofString "must_send"), .str (Str.ofString "must_send") k10, .bool send⟩, ⟨PyData.keyHash w.params (Str.ofString "sent_many"), .str (Str.ofString "sent_many") k11, x11⟩] (fun _ _ => by kernel_rfl) (by kernel_rfl) (Nat.le_of_ble_eq_true (by kernel_rfl)) (by kernel_rfl) (.mk rfl)
theorem PEs.p_choice {y : Str} {t : Tok} (h : PEs w row av pv heard left choice turn send es) : PutP (Str.ofString "choice") (.str y t) es (PEs w row av pv heard left y turn send) := by
  obtain @⟨k0, k1, k2, k3, k4, k5, k6, k7, k8, k9, k10, k11, t3, t4, t5, t9, x6, x7, x8, x11, rfl⟩ := h
  exact .mk [⟨PyData.keyHash w.params (Str.ofString "row"), .str (Str.ofString "row") k0, .ref row⟩, ⟨PyData.keyHash w.params (Str.ofString "actor"), .str (Str.ofString "actor") k1, .ref av⟩, ⟨PyData.keyHash w.params (Str.ofString "partner"), .str (Str.ofString "partner") k2, .ref pv⟩, ⟨PyData.keyHash w.params (Str.ofString "heard"), .str (Str.ofString "heard") k3, .str heard t3⟩, ⟨PyData.keyHash w.params (Str.ofString "heard_left"), .str (Str.ofString "heard_left") k4, .int left t4⟩, ⟨PyData.keyHash w.params (Str.ofString "choice"), .str (Str.ofString "choice") k5, .str y t⟩, ⟨PyData.keyHash w.params (Str.ofString "mux"), .str (Str.ofString "mux") k6, x6⟩, ⟨PyData.keyHash w.params (Str.ofString "bundle"), .str (Str.ofString "bundle") k7, x7⟩, ⟨PyData.keyHash w.params (Str.ofString "join_left"), .str (Str.ofString "join_left") k8, x8⟩, ⟨PyData.keyHash w.params (Str.ofString "turn_left"), .str (Str.ofString "turn_left") k9, .int turn t9⟩, ⟨PyData.keyHash w.params (Str.ofString "must_send"), .str (Str.ofString "must_send") k10, .bool send⟩, ⟨PyData.keyHash w.params (Str.ofString "sent_many"), .str (Str.ofString "sent_many") k11, x11⟩] (fun _ _ => by kernel_rfl) (by kernel_rfl) (Nat.le_of_ble_eq_true (by kernel_rfl)) (by kernel_rfl) (.mk rfl)
theorem PEs.p_turn_left {y : Int} {t : Tok} (h : PEs w row av pv heard left choice turn send es) : PutP (Str.ofString "turn_left") (.int y t) es (PEs w row av pv heard left choice y send) := by
  obtain @⟨k0, k1, k2, k3, k4, k5, k6, k7, k8, k9, k10, k11, t3, t4, t5, t9, x6, x7, x8, x11, rfl⟩ := h
  exact .mk [⟨PyData.keyHash w.params (Str.ofString "row"), .str (Str.ofString "row") k0, .ref row⟩, ⟨PyData.keyHash w.params (Str.ofString "actor"), .str (Str.ofString "actor") k1, .ref av⟩, ⟨PyData.keyHash w.params (Str.ofString "partner"), .str (Str.ofString "partner") k2, .ref pv⟩, ⟨PyData.keyHash w.params (Str.ofString "heard"), .str (Str.ofString "heard") k3, .str heard t3⟩, ⟨PyData.keyHash w.params (Str.ofString "heard_left"), .str (Str.ofString "heard_left") k4, .int left t4⟩, ⟨PyData.keyHash w.params (Str.ofString "choice"), .str (Str.ofString "choice") k5, .str choice t5⟩, ⟨PyData.keyHash w.params (Str.ofString "mux"), .str (Str.ofString "mux") k6, x6⟩, ⟨PyData.keyHash w.params (Str.ofString "bundle"), .str (Str.ofString "bundle") k7, x7⟩, ⟨PyData.keyHash w.params (Str.ofString "join_left"), .str (Str.ofString "join_left") k8, x8⟩, ⟨PyData.keyHash w.params (Str.ofString "turn_left"), .str (Str.ofString "turn_left") k9, .int y t⟩, ⟨PyData.keyHash w.params (Str.ofString "must_send"), .str (Str.ofString "must_send") k10, .bool send⟩, ⟨PyData.keyHash w.params (Str.ofString "sent_many"), .str (Str.ofString "sent_many") k11, x11⟩] (fun _ _ => by kernel_rfl) (by kernel_rfl) (Nat.le_of_ble_eq_true (by kernel_rfl)) (by kernel_rfl) (.mk rfl)
theorem PEs.p_must_send {y : Bool} (h : PEs w row av pv heard left choice turn send es) : PutP (Str.ofString "must_send") (.bool y) es (PEs w row av pv heard left choice turn y) := by
  obtain @⟨k0, k1, k2, k3, k4, k5, k6, k7, k8, k9, k10, k11, t3, t4, t5, t9, x6, x7, x8, x11, rfl⟩ := h
  exact .mk [⟨PyData.keyHash w.params (Str.ofString "row"), .str (Str.ofString "row") k0, .ref row⟩, ⟨PyData.keyHash w.params (Str.ofString "actor"), .str (Str.ofString "actor") k1, .ref av⟩, ⟨PyData.keyHash w.params (Str.ofString "partner"), .str (Str.ofString "partner") k2, .ref pv⟩, ⟨PyData.keyHash w.params (Str.ofString "heard"), .str (Str.ofString "heard") k3, .str heard t3⟩, ⟨PyData.keyHash w.params (Str.ofString "heard_left"), .str (Str.ofString "heard_left") k4, .int left t4⟩, ⟨PyData.keyHash w.params (Str.ofString "choice"), .str (Str.ofString "choice") k5, .str choice t5⟩, ⟨PyData.keyHash w.params (Str.ofString "mux"), .str (Str.ofString "mux") k6, x6⟩, ⟨PyData.keyHash w.params (Str.ofString "bundle"), .str (Str.ofString "bundle") k7, x7⟩, ⟨PyData.keyHash w.params (Str.ofString "join_left"), .str (Str.ofString "join_left") k8, x8⟩, ⟨PyData.keyHash w.params (Str.ofString "turn_left"), .str (Str.ofString "turn_left") k9, .int turn t9⟩, ⟨PyData.keyHash w.params (Str.ofString "must_send"), .str (Str.ofString "must_send") k10, .bool y⟩, ⟨PyData.keyHash w.params (Str.ofString "sent_many"), .str (Str.ofString "sent_many") k11, x11⟩] (fun _ _ => by kernel_rfl) (by kernel_rfl) (Nat.le_of_ble_eq_true (by kernel_rfl)) (by kernel_rfl) (.mk rfl)
end
theorem lines_10 : True := by
  k_with "own getAttr ref" => (k_here; (with_reducible show wpAny _ _ (getAttr (Value.ref _) (PySem.Str.ofString "row") _) _ _ _); k_dflt (refine' get_own ?k1_42 ?k2_42 ?k3_42 ?k4_42 ?k5_42 ?k6_42 ?k7_42 ?k8_42 ?k9_42 ?_; (case k1_42 => k_asm); (case k2_42 => k_asm); (case k3_42 => k_inst); (case k8_42 => exact (PEs.gets (by with_reducible assumption)).1); (case k4_42 => k_is); (case k5_42 => k_is); (case k6_42 => k_is); (case k7_42 => k_is); (case k9_42 => k_handed); k_whole))
  k_with "own getAttr ref" => (k_here; (with_reducible show wpAny _ _ (getAttr (Value.ref _) (PySem.Str.ofString "actor") _) _ _ _); k_dflt (refine' get_own ?k1_43 ?k2_43 ?k3_43 ?k4_43 ?k5_43 ?k6_43 ?k7_43 ?k8_43 ?k9_43 ?_; (case k1_43 => k_asm); (case k2_43 => k_asm); (case k3_43 => k_inst); (case k8_43 => exact (PEs.gets (by with_reducible assumption)).2.1); (case k4_43 => k_is); (case k5_43 => k_is); (case k6_43 => k_is); (case k7_43 => k_is); (case k9_43 => k_handed); k_whole))
  k_with "own getAttr ref" => (k_here; (with_reducible show wpAny _ _ (getAttr (Value.ref _) (PySem.Str.ofString "partner") _) _ _ _); k_dflt (refine' get_own ?k1_44 ?k2_44 ?k3_44 ?k4_44 ?k5_44 ?k6_44 ?k7_44 ?k8_44 ?k9_44 ?_; (case k1_44 => k_asm); (case k2_44 => k_asm); (case k3_44 => k_inst); (case k8_44 => exact (PEs.gets (by with_reducible assumption)).2.2.1); (case k4_44 => k_is); (case k5_44 => k_is); (case k6_44 => k_is); (case k7_44 => k_is); (case k9_44 => k_handed); k_whole))
  k_with "own getAttr ref" => (k_here; (with_reducible show wpAny _ _ (getAttr (Value.ref _) (PySem.Str.ofString "must_send") _) _ _ _); k_dflt (refine' get_own ?k1_45 ?k2_45 ?k3_45 ?k4_45 ?k5_45 ?k6_45 ?k7_45 ?k8_45 ?k9_45 ?_; (case k1_45 => k_asm); (case k2_45 => k_asm); (case k3_45 => k_inst); (case k8_45 => exact (PEs.gets (by with_reducible assumption)).2.2.2); (case k4_45 => k_is); (case k5_45 => k_is); (case k6_45 => k_is); (case k7_45 => k_is); (case k9_45 => k_handed); k_whole))
  k_with "own getAttr ref" => (k_here; (with_reducible show wpAny _ _ (getAttr (Value.ref _) (PySem.Str.ofString "heard") _) _ _ _); k_dflt (refine' get_own_t ?k1_46 ?k2_46 ?k3_46 ?k4_46 ?k5_46 ?k6_46 ?k7_46 ?k8_46 ?k9_46 ?_; (case k1_46 => k_asm); (case k2_46 => k_asm); (case k3_46 => k_inst); (case k8_46 => exact (PEs.getsT (by with_reducible assumption)).1); (case k4_46 => k_is); (case k5_46 => k_is); (case k6_46 => k_is); (case k7_46 => k_is); (case k9_46 => (intro _; k_handed)); k_whole); intro t')
  k_with "own getAttr ref" => (k_here; (with_reducible show wpAny _ _ (getAttr (Value.ref _) (PySem.Str.ofString "heard_left") _) _ _ _); k_dflt (refine' get_own_t ?k1_47 ?k2_47 ?k3_47 ?k4_47 ?k5_47 ?k6_47 ?k7_47 ?k8_47 ?k9_47 ?_; (case k1_47 => k_asm); (case k2_47 => k_asm); (case k3_47 => k_inst); (case k8_47 => exact (PEs.getsT (by with_reducible assumption)).2.1); (case k4_47 => k_is); (case k5_47 => k_is); (case k6_47 => k_is); (case k7_47 => k_is); (case k9_47 => (intro _; k_handed)); k_whole); intro t')
  k_with "own getAttr ref" => (k_here; (with_reducible show wpAny _ _ (getAttr (Value.ref _) (PySem.Str.ofString "choice") _) _ _ _); k_dflt (refine' get_own_t ?k1_48 ?k2_48 ?k3_48 ?k4_48 ?k5_48 ?k6_48 ?k7_48 ?k8_48 ?k9_48 ?_; (case k1_48 => k_asm); (case k2_48 => k_asm); (case k3_48 => k_inst); (case k8_48 => exact (PEs.getsT (by with_reducible assumption)).2.2.1); (case k4_48 => k_is); (case k5_48 => k_is); (case k6_48 => k_is); (case k7_48 => k_is); (case k9_48 => (intro _; k_handed)); k_whole); intro t')
  k_with "own getAttr ref" => (k_here; (with_reducible show wpAny _ _ (getAttr (Value.ref _) (PySem.Str.ofString "turn_left") _) _ _ _); k_dflt (refine' get_own_t ?k1_49 ?k2_49 ?k3_49 ?k4_49 ?k5_49 ?k6_49 ?k7_49 ?k8_49 ?k9_49 ?_; (case k1_49 => k_asm); (case k2_49 => k_asm); (case k3_49 => k_inst); (case k8_49 => exact (PEs.getsT (by with_reducible assumption)).2.2.2); (case k4_49 => k_is); (case k5_49 => k_is); (case k6_49 => k_is); (case k7_49 => k_is); (case k9_49 => (intro _; k_handed)); k_whole); intro t')
  k_with "own getMethod ref" => (k_here; (with_reducible show wpAny _ _ (getMethod (Value.ref _) (PySem.Str.ofString "own") _) _ _ _); k_dflt (refine' method_inst ?k1_50 ?k2_50 ?k3_50 ?k4_50 ?k5_50 ?k6_50 ?k7_50 ?_; (case k1_50 => k_asm); (case k2_50 => k_asm); (case k3_50 => k_inst); (case k7_50 => exact (PEs.none (by with_reducible assumption)).1); (case k4_50 => k_is); (case k5_50 => k_is); (case k6_50 => k_is); k_whole))
  k_with "own getMethod ref" => (k_here; (with_reducible show wpAny _ _ (getMethod (Value.ref _) (PySem.Str.ofString "others") _) _ _ _); k_dflt (refine' method_inst ?k1_51 ?k2_51 ?k3_51 ?k4_51 ?k5_51 ?k6_51 ?k7_51 ?_; (case k1_51 => k_asm); (case k2_51 => k_asm); (case k3_51 => k_inst); (case k7_51 => exact (PEs.none (by with_reducible assumption)).2.1); (case k4_51 => k_is); (case k5_51 => k_is); (case k6_51 => k_is); k_whole))
  k_with "own getMethod ref" => (k_here; (with_reducible show wpAny _ _ (getMethod (Value.ref _) (PySem.Str.ofString "set_own") _) _ _ _); k_dflt (refine' method_inst ?k1_52 ?k2_52 ?k3_52 ?k4_52 ?k5_52 ?k6_52 ?k7_52 ?_; (case k1_52 => k_asm); (case k2_52 => k_asm); (case k3_52 => k_inst); (case k7_52 => exact (PEs.none (by with_reducible assumption)).2.2.1); (case k4_52 => k_is); (case k5_52 => k_is); (case k6_52 => k_is); k_whole))
  k_with "own getMethod ref" => (k_here; (with_reducible show wpAny _ _ (getMethod (Value.ref _) (PySem.Str.ofString "is_up") _) _ _ _); k_dflt (refine' method_inst ?k1_53 ?k2_53 ?k3_53 ?k4_53 ?k5_53 ?k6_53 ?k7_53 ?_; (case k1_53 => k_asm); (case k2_53 => k_asm); (case k3_53 => k_inst); (case k7_53 => exact (PEs.none (by with_reducible assumption)).2.2.2.1); (case k4_53 => k_is); (case k5_53 => k_is); (case k6_53 => k_is); k_whole))
  k_with "own getMethod ref" => (k_here; (with_reducible show wpAny _ _ (getMethod (Value.ref _) (PySem.Str.ofString "turn") _) _ _ _); k_dflt (refine' method_inst ?k1_54 ?k2_54 ?k3_54 ?k4_54 ?k5_54 ?k6_54 ?k7_54 ?_; (case k1_54 => k_asm); (case k2_54 => k_asm); (case k3_54 => k_inst); (case k7_54 => exact (PEs.none (by with_reducible assumption)).2.2.2.2.1); (case k4_54 => k_is); (case k5_54 => k_is); (case k6_54 => k_is); k_whole))
  k_with "own getMethod ref" => (k_here; (with_reducible show wpAny _ _ (getMethod (Value.ref _) (PySem.Str.ofString "heard_wait") _) _ _ _); k_dflt (refine' method_inst ?k1_55 ?k2_55 ?k3_55 ?k4_55 ?k5_55 ?k6_55 ?k7_55 ?_; (case k1_55 => k_asm); (case k2_55 => k_asm); (case k3_55 => k_inst); (case k7_55 => exact (PEs.none (by with_reducible assumption)).2.2.2.2.2.1); (case k4_55 => k_is); (case k5_55 => k_is); (case k6_55 => k_is); k_whole))
  k_with "own getMethod ref" => (k_here; (with_reducible show wpAny _ _ (getMethod (Value.ref _) (PySem.Str.ofString "told_bits") _) _ _ _); k_dflt (refine' method_inst ?k1_56 ?k2_56 ?k3_56 ?k4_56 ?k5_56 ?k6_56 ?k7_56 ?_; (case k1_56 => k_asm); (case k2_56 => k_asm); (case k3_56 => k_inst); (case k7_56 => exact (PEs.none (by with_reducible assumption)).2.2.2.2.2.2); (case k4_56 => k_is); (case k5_56 => k_is); (case k6_56 => k_is); k_whole))
  k_with "own setAttr ref" => (k_here; (with_reducible show wpAny _ _ (setAttr (Value.ref _) (PySem.Str.ofString "actor") _) _ _ _); k_dflt (refine' set_port ?k1_57 ?k2_57 ?k3_57 ?k4_57 ?k5_57 ?k6_57 ?k7_57 ?k8_57 ?k9_57 ?kp_57 ?_; (case k1_57 => k_asm); (case k2_57 => k_asm); (case k3_57 => k_asm); (case k4_57 => k_inst); (case kp_57 => exact PEs.p_actor (by with_reducible assumption)); (case k5_57 => exact rfl); (case k6_57 => k_is); (case k7_57 => k_is); (case k8_57 => k_is); (case k9_57 => k_is); k_whole; intro es' pe'; refine' ⟨_, ?ku, ?_⟩; (case ku => k_upd)); intro h' F' N'; (try k_sweep))
  k_with "own setAttr ref" => (k_here; (with_reducible show wpAny _ _ (setAttr (Value.ref _) (PySem.Str.ofString "partner") _) _ _ _); k_dflt (refine' set_port ?k1_58 ?k2_58 ?k3_58 ?k4_58 ?k5_58 ?k6_58 ?k7_58 ?k8_58 ?k9_58 ?kp_58 ?_; (case k1_58 => k_asm); (case k2_58 => k_asm); (case k3_58 => k_asm); (case k4_58 => k_inst); (case kp_58 => exact PEs.p_partner (by with_reducible assumption)); (case k5_58 => exact rfl); (case k6_58 => k_is); (case k7_58 => k_is); (case k8_58 => k_is); (case k9_58 => k_is); k_whole; intro es' pe'; refine' ⟨_, ?ku, ?_⟩; (case ku => k_upd)); intro h' F' N'; (try k_sweep))
  k_with "own setAttr ref" => (k_here; (with_reducible show wpAny _ _ (setAttr (Value.ref _) (PySem.Str.ofString "heard") _) _ _ _); k_dflt (refine' set_port ?k1_59 ?k2_59 ?k3_59 ?k4_59 ?k5_59 ?k6_59 ?k7_59 ?k8_59 ?k9_59 ?kp_59 ?_; (case k1_59 => k_asm); (case k2_59 => k_asm); (case k3_59 => k_asm); (case k4_59 => k_inst); (case kp_59 => exact PEs.p_heard (by with_reducible assumption)); (case k5_59 => exact rfl); (case k6_59 => k_is); (case k7_59 => k_is); (case k8_59 => k_is); (case k9_59 => k_is); k_whole; intro es' pe'; refine' ⟨_, ?ku, ?_⟩; (case ku => k_upd)); intro h' F' N'; (try k_sweep))
  k_with "own setAttr ref" => (k_here; (with_reducible show wpAny _ _ (setAttr (Value.ref _) (PySem.Str.ofString "heard_left") _) _ _ _); k_dflt (refine' set_port ?k1_60 ?k2_60 ?k3_60 ?k4_60 ?k5_60 ?k6_60 ?k7_60 ?k8_60 ?k9_60 ?kp_60 ?_; (case k1_60 => k_asm); (case k2_60 => k_asm); (case k3_60 => k_asm); (case k4_60 => k_inst); (case kp_60 => exact PEs.p_heard_left (by with_reducible assumption)); (case k5_60 => exact rfl); (case k6_60 => k_is); (case k7_60 => k_is); (case k8_60 => k_is); (case k9_60 => k_is); k_whole; intro es' pe'; refine' ⟨_, ?ku, ?_⟩; (case ku => k_upd)); intro h' F' N'; (try k_sweep))
  k_with "own setAttr ref" => (k_here; (with_reducible show wpAny _ _ (setAttr (Value.ref _) (PySem.Str.ofString "choice") _) _ _ _); k_dflt (refine' set_port ?k1_61 ?k2_61 ?k3_61 ?k4_61 ?k5_61 ?k6_61 ?k7_61 ?k8_61 ?k9_61 ?kp_61 ?_; (case k1_61 => k_asm); (case k2_61 => k_asm); (case k3_61 => k_asm); (case k4_61 => k_inst); (case kp_61 => exact PEs.p_choice (by with_reducible assumption)); (case k5_61 => exact rfl); (case k6_61 => k_is); (case k7_61 => k_is); (case k8_61 => k_is); (case k9_61 => k_is); k_whole; intro es' pe'; refine' ⟨_, ?ku, ?_⟩; (case ku => k_upd)); intro h' F' N'; (try k_sweep))
  k_with "own setAttr ref" => (k_here; (with_reducible show wpAny _ _ (setAttr (Value.ref _) (PySem.Str.ofString "turn_left") _) _ _ _); k_dflt (refine' set_port ?k1_62 ?k2_62 ?k3_62 ?k4_62 ?k5_62 ?k6_62 ?k7_62 ?k8_62 ?k9_62 ?kp_62 ?_; (case k1_62 => k_asm); (case k2_62 => k_asm); (case k3_62 => k_asm); (case k4_62 => k_inst); (case kp_62 => exact PEs.p_turn_left (by with_reducible assumption)); (case k5_62 => exact rfl); (case k6_62 => k_is); (case k7_62 => k_is); (case k8_62 => k_is); (case k9_62 => k_is); k_whole; intro es' pe'; refine' ⟨_, ?ku, ?_⟩; (case ku => k_upd)); intro h' F' N'; (try k_sweep))
  k_with "own setAttr ref" => (k_here; (with_reducible show wpAny _ _ (setAttr (Value.ref _) (PySem.Str.ofString "must_send") _) _ _ _); k_dflt (refine' set_port ?k1_63 ?k2_63 ?k3_63 ?k4_63 ?k5_63 ?k6_63 ?k7_63 ?k8_63 ?k9_63 ?kp_63 ?_; (case k1_63 => k_asm); (case k2_63 => k_asm); (case k3_63 => k_asm); (case k4_63 => k_inst); (case kp_63 => exact PEs.p_must_send (by with_reducible assumption)); (case k5_63 => exact rfl); (case k6_63 => k_is); (case k7_63 => k_is); (case k8_63 => k_is); (case k9_63 => k_is); k_whole; intro es' pe'; refine' ⟨_, ?ku, ?_⟩; (case ku => k_upd)); intro h' F' N'; (try k_sweep))
  k_with "own mine port" => exact PortAt.mk (News.get (by k_asm) (by k_mem)) (News.get (by k_asm) (by k_mem)) (by with_reducible assumption) (by walk_at "mine info") (by walk_at "mine info")
  trivial

set_option maxHeartbeats 2000000 in
theorem own_ok (w : World) (p dx : Addr) (P : PS) (b : Int) (t : Tok) :
    Does w 131 2 [.ref p, .int b t] [p, dx] [] (fun h => PortAt w h p dx P) (fun h r h' => r = .bool (hb P.A.st b)) := by
  have key : model PySem.Challenge.rw_xm0983_01.row.prog w = model PySem.Challenge.rw_xm0983_01.row.prog w → hd.heap_1 w.params = hd.heap_1 w.params →
      Does w 131 2 [.ref p, .int b t] [p, dx] [] (fun h => PortAt w h p dx P) (fun h r h' => r = .bool (hb P.A.st b)) := by
    k_fill
    intro _ _
    refine' does_of (binds := [(Str.ofString "self", Value.ref p), (Str.ofString "bit", Value.int b t)]) ?up ?dn (by decide) ?ho ?hcd ?hb ?hl ?c1 ?c2 ?c3 ?c4 ?_
    case ho => k_is
    case hcd => k_is
    case hb => walk_at "mine hb"
    case hl => exact locs rfl
    case c1 => exact rfl
    case c2 => exact rfl
    case c3 => exact rfl
    case c4 => decide
    case up => exact fun h h' k p => p.up k
    case dn => exact fun h h' r h'' k p => p
    intro dp un gd outer A₀ base g L s Q E mean mg mb B F X T hmut hpre hd hu hret
    have AN : Anc g s.heap := ⟨fun b o e => F.keep b o e⟩
    have AK : Since [p, dx] L s.heap s.heap := Since.refl
    obtain @⟨row, A, B, heard, left, choice, turn, send, es, av, pv, hp, hq, hpe, ia, ip⟩ := hpre
    have hne := neN (at_ne hq hp (dne rfl))
    have NT : NoTup s.heap [L, p, dx] := Fr.noTup F (.cons hp inst_noTup (.cons hq dict_noTup .nil))
    have N : News g L s.heap ((dx, dictOf es 12) :: (p, instObj 190 dx) :: restOf g L s.heap [p, dx]) := News.add (hmut dx (by k_mem)) hq (News.add (hmut p (by k_mem)) hp rest_news)
    with_reducible show wpAny _ _ _ _ _ _
    k_steps
    all_goals (try dsimp only)
    all_goals refine hret _ _ _ _ (by k_asm) (since_cons hq (News.get (by k_asm) (by k_mem)) (since_cons hp (News.get (by k_asm) (by k_mem)) (by walk_at "mine kept"))) ?_
    all_goals rfl
  exact key rfl rfl

theorem lines_11 : True := by
  k_with "own call ref" => (k_here; (with_reducible show wpAny _ _ (call (Value.ref 131) _) _ _ _); k_dflt (refine' Does.use (own_ok _ _ _ _ _ _) ?kB ?kF ?kX ?kT ?kk ?km_65 ?kp_65 ?kd ?ku ?_; walk_at "mine use"; (case kp_65 => walk_at "mine port"); (case km_65 => walk_at "mine own"); walk_at "mine room"); intro r' h' tk' F' K' P'; walk_at "mine after"; (try dsimp only at P'); subst P')
  trivial

set_option maxHeartbeats 2000000 in
theorem others_ok (w : World) (p dx : Addr) (P : PS) (b : Int) (t : Tok) :
    Does w 138 2 [.ref p, .int b t] [p, dx] [] (fun h => PortAt w h p dx P) (fun h r h' => r = .bool (hb P.B.st b)) := by
  have key : model PySem.Challenge.rw_xm0983_01.row.prog w = model PySem.Challenge.rw_xm0983_01.row.prog w → hd.heap_1 w.params = hd.heap_1 w.params →
      Does w 138 2 [.ref p, .int b t] [p, dx] [] (fun h => PortAt w h p dx P) (fun h r h' => r = .bool (hb P.B.st b)) := by
    k_fill
    intro _ _
    refine' does_of (binds := [(Str.ofString "self", Value.ref p), (Str.ofString "bit", Value.int b t)]) ?up ?dn (by decide) ?ho ?hcd ?hb ?hl ?c1 ?c2 ?c3 ?c4 ?_
    case ho => k_is
    case hcd => k_is
    case hb => walk_at "mine hb"
    case hl => exact locs rfl
    case c1 => exact rfl
    case c2 => exact rfl
    case c3 => exact rfl
    case c4 => decide
    case up => exact fun h h' k p => p.up k
    case dn => exact fun h h' r h'' k p => p
    intro dp un gd outer A₀ base g L s Q E mean mg mb B F X T hmut hpre hd hu hret
    have AN : Anc g s.heap := ⟨fun b o e => F.keep b o e⟩
    have AK : Since [p, dx] L s.heap s.heap := Since.refl
    obtain @⟨row, A, B, heard, left, choice, turn, send, es, av, pv, hp, hq, hpe, ia, ip⟩ := hpre
    have hne := neN (at_ne hq hp (dne rfl))
    have NT : NoTup s.heap [L, p, dx] := Fr.noTup F (.cons hp inst_noTup (.cons hq dict_noTup .nil))
    have N : News g L s.heap ((dx, dictOf es 12) :: (p, instObj 190 dx) :: restOf g L s.heap [p, dx]) := News.add (hmut dx (by k_mem)) hq (News.add (hmut p (by k_mem)) hp rest_news)
    with_reducible show wpAny _ _ _ _ _ _
    k_steps
    all_goals (try dsimp only)
    all_goals refine hret _ _ _ _ (by k_asm) (since_cons hq (News.get (by k_asm) (by k_mem)) (since_cons hp (News.get (by k_asm) (by k_mem)) (by walk_at "mine kept"))) ?_
    all_goals rfl
  exact key rfl rfl

theorem lines_12 : True := by
  k_with "own call ref" => (k_here; (with_reducible show wpAny _ _ (call (Value.ref 138) _) _ _ _); k_dflt (refine' Does.use (others_ok _ _ _ _ _ _) ?kB ?kF ?kX ?kT ?kk ?km_66 ?kp_66 ?kd ?ku ?_; walk_at "mine use"; (case kp_66 => walk_at "mine port"); (case km_66 => walk_at "mine own"); walk_at "mine room"); intro r' h' tk' F' K' P'; walk_at "mine after"; (try dsimp only at P'); subst P')
  trivial

set_option maxHeartbeats 2000000 in
theorem is_up_ok (w : World) (p dx : Addr) (P : PS)  :
    Does w 124 1 [.ref p] [p, dx] [] (fun h => PortAt w h p dx P) (fun h r h' => r = .bool (!(P.heard == Str.ofString "disabled"))) := by
  have key : model PySem.Challenge.rw_xm0983_01.row.prog w = model PySem.Challenge.rw_xm0983_01.row.prog w → hd.heap_1 w.params = hd.heap_1 w.params →
      Does w 124 1 [.ref p] [p, dx] [] (fun h => PortAt w h p dx P) (fun h r h' => r = .bool (!(P.heard == Str.ofString "disabled"))) := by
    k_fill
    intro _ _
    refine' does_of (binds := [(Str.ofString "self", Value.ref p)]) ?up ?dn (by decide) ?ho ?hcd ?hb ?hl ?c1 ?c2 ?c3 ?c4 ?_
    case ho => k_is
    case hcd => k_is
    case hb => walk_at "mine hb"
    case hl => exact locs rfl
    case c1 => exact rfl
    case c2 => exact rfl
    case c3 => exact rfl
    case c4 => decide
    case up => exact fun h h' k p => p.up k
    case dn => exact fun h h' r h'' k p => p
    intro dp un gd outer A₀ base g L s Q E mean mg mb B F X T hmut hpre hd hu hret
    have AN : Anc g s.heap := ⟨fun b o e => F.keep b o e⟩
    have AK : Since [p, dx] L s.heap s.heap := Since.refl
    obtain @⟨row, A, B, heard, left, choice, turn, send, es, av, pv, hp, hq, hpe, ia, ip⟩ := hpre
    have hne := neN (at_ne hq hp (dne rfl))
    have NT : NoTup s.heap [L, p, dx] := Fr.noTup F (.cons hp inst_noTup (.cons hq dict_noTup .nil))
    have N : News g L s.heap ((dx, dictOf es 12) :: (p, instObj 190 dx) :: restOf g L s.heap [p, dx]) := News.add (hmut dx (by k_mem)) hq (News.add (hmut p (by k_mem)) hp rest_news)
    with_reducible show wpAny _ _ _ _ _ _
    k_steps
    all_goals (try dsimp only)
    all_goals refine hret _ _ _ _ (by k_asm) (since_cons hq (News.get (by k_asm) (by k_mem)) (since_cons hp (News.get (by k_asm) (by k_mem)) (by walk_at "mine kept"))) ?_
    all_goals rfl
  exact key rfl rfl

theorem lines_13 : True := by
  k_with "own call ref" => (k_here; (with_reducible show wpAny _ _ (call (Value.ref 124) _) _ _ _); k_dflt (refine' Does.use (is_up_ok _ _ _ _) ?kB ?kF ?kX ?kT ?kk ?km_67 ?kp_67 ?kd ?ku ?_; walk_at "mine use"; (case kp_67 => walk_at "mine port"); (case km_67 => walk_at "mine own"); walk_at "mine room"); intro r' h' tk' F' K' P'; walk_at "mine after"; (try dsimp only at P'); subst P')
  trivial

set_option maxHeartbeats 2000000 in
theorem turn_ok (w : World) (p dx : Addr) (P : PS)  :
    Does w 173 3 [.ref p] [p, dx] [] (fun h => PortAt w h p dx P) (fun h r h' => ∃ t, r = .int (if hb P.B.st 2 then 1 else 30) t) := by
  have key : model PySem.Challenge.rw_xm0983_01.row.prog w = model PySem.Challenge.rw_xm0983_01.row.prog w → hd.heap_1 w.params = hd.heap_1 w.params →
      Does w 173 3 [.ref p] [p, dx] [] (fun h => PortAt w h p dx P) (fun h r h' => ∃ t, r = .int (if hb P.B.st 2 then 1 else 30) t) := by
    k_fill
    intro _ _
    refine' does_of (binds := [(Str.ofString "self", Value.ref p)]) ?up ?dn (by decide) ?ho ?hcd ?hb ?hl ?c1 ?c2 ?c3 ?c4 ?_
    case ho => k_is
    case hcd => k_is
    case hb => walk_at "mine hb"
    case hl => exact locs rfl
    case c1 => exact rfl
    case c2 => exact rfl
    case c3 => exact rfl
    case c4 => decide
    case up => exact fun h h' k p => p.up k
    case dn => exact fun h h' r h'' k p => p
    intro dp un gd outer A₀ base g L s Q E mean mg mb B F X T hmut hpre hd hu hret
    have AN : Anc g s.heap := ⟨fun b o e => F.keep b o e⟩
    have AK : Since [p, dx] L s.heap s.heap := Since.refl
    obtain @⟨row, A, B, heard, left, choice, turn, send, es, av, pv, hp, hq, hpe, ia, ip⟩ := hpre
    have hne := neN (at_ne hq hp (dne rfl))
    have NT : NoTup s.heap [L, p, dx] := Fr.noTup F (.cons hp inst_noTup (.cons hq dict_noTup .nil))
    have N : News g L s.heap ((dx, dictOf es 12) :: (p, instObj 190 dx) :: restOf g L s.heap [p, dx]) := News.add (hmut dx (by k_mem)) hq (News.add (hmut p (by k_mem)) hp rest_news)
    with_reducible show wpAny _ _ _ _ _ _
    k_steps
    all_goals (try dsimp only)
    all_goals refine hret _ _ _ _ (by k_asm) (since_cons hq (News.get (by k_asm) (by k_mem)) (since_cons hp (News.get (by k_asm) (by k_mem)) (by walk_at "mine kept"))) ?_
    all_goals (simp only [*]; exact ⟨_, rfl⟩)
  exact key rfl rfl

theorem lines_14 : True := by
  k_with "own call ref" => (k_here; (with_reducible show wpAny _ _ (call (Value.ref 173) _) _ _ _); k_dflt (refine' Does.use (turn_ok _ _ _ _) ?kB ?kF ?kX ?kT ?kk ?km_68 ?kp_68 ?kd ?ku ?_; walk_at "mine use"; (case kp_68 => walk_at "mine port"); (case km_68 => walk_at "mine own"); walk_at "mine room"); intro r' h' tk' F' K' P'; walk_at "mine after"; (try dsimp only at P'); obtain ⟨t', e'⟩ := P'; subst e')
  trivial

set_option maxHeartbeats 2000000 in
theorem heard_wait_ok (w : World) (p dx : Addr) (P : PS)  :
    Does w 180 3 [.ref p] [p, dx] [] (fun h => PortAt w h p dx P) (fun h r h' => ∃ t, r = .int (if hb P.A.st 2 then 3 else 90) t) := by
  have key : model PySem.Challenge.rw_xm0983_01.row.prog w = model PySem.Challenge.rw_xm0983_01.row.prog w → hd.heap_1 w.params = hd.heap_1 w.params →
      Does w 180 3 [.ref p] [p, dx] [] (fun h => PortAt w h p dx P) (fun h r h' => ∃ t, r = .int (if hb P.A.st 2 then 3 else 90) t) := by
    k_fill
    intro _ _
    refine' does_of (binds := [(Str.ofString "self", Value.ref p)]) ?up ?dn (by decide) ?ho ?hcd ?hb ?hl ?c1 ?c2 ?c3 ?c4 ?_
    case ho => k_is
    case hcd => k_is
    case hb => walk_at "mine hb"
    case hl => exact locs rfl
    case c1 => exact rfl
    case c2 => exact rfl
    case c3 => exact rfl
    case c4 => decide
    case up => exact fun h h' k p => p.up k
    case dn => exact fun h h' r h'' k p => p
    intro dp un gd outer A₀ base g L s Q E mean mg mb B F X T hmut hpre hd hu hret
    have AN : Anc g s.heap := ⟨fun b o e => F.keep b o e⟩
    have AK : Since [p, dx] L s.heap s.heap := Since.refl
    obtain @⟨row, A, B, heard, left, choice, turn, send, es, av, pv, hp, hq, hpe, ia, ip⟩ := hpre
    have hne := neN (at_ne hq hp (dne rfl))
    have NT : NoTup s.heap [L, p, dx] := Fr.noTup F (.cons hp inst_noTup (.cons hq dict_noTup .nil))
    have N : News g L s.heap ((dx, dictOf es 12) :: (p, instObj 190 dx) :: restOf g L s.heap [p, dx]) := News.add (hmut dx (by k_mem)) hq (News.add (hmut p (by k_mem)) hp rest_news)
    with_reducible show wpAny _ _ _ _ _ _
    k_steps
    all_goals (try dsimp only)
    all_goals refine hret _ _ _ _ (by k_asm) (since_cons hq (News.get (by k_asm) (by k_mem)) (since_cons hp (News.get (by k_asm) (by k_mem)) (by walk_at "mine kept"))) ?_
    all_goals (simp only [*]; exact ⟨_, rfl⟩)
  exact key rfl rfl

theorem lines_15 : True := by
  k_with "own call ref" => (k_here; (with_reducible show wpAny _ _ (call (Value.ref 180) _) _ _ _); k_dflt (refine' Does.use (heard_wait_ok _ _ _ _) ?kB ?kF ?kX ?kT ?kk ?km_69 ?kp_69 ?kd ?ku ?_; walk_at "mine use"; (case kp_69 => walk_at "mine port"); (case km_69 => walk_at "mine own"); walk_at "mine room"); intro r' h' tk' F' K' P'; walk_at "mine after"; (try dsimp only at P'); obtain ⟨t', e'⟩ := P'; subst e')
  trivial

set_option maxHeartbeats 2000000 in
theorem told_bits_ok (w : World) (p dx : Addr) (P : PS)  :
    Does w 187 3 [.ref p] [p, dx] [] (fun h => PortAt w h p dx P) (fun h r h' => ∃ v, r = .ref v ∧ TupAt h' v [.bool (hb P.A.st 64), .bool (hb P.A.st 128)]) := by
  have key : model PySem.Challenge.rw_xm0983_01.row.prog w = model PySem.Challenge.rw_xm0983_01.row.prog w → hd.heap_1 w.params = hd.heap_1 w.params →
      Does w 187 3 [.ref p] [p, dx] [] (fun h => PortAt w h p dx P) (fun h r h' => ∃ v, r = .ref v ∧ TupAt h' v [.bool (hb P.A.st 64), .bool (hb P.A.st 128)]) := by
    k_fill
    intro _ _
    refine' does_of (binds := [(Str.ofString "self", Value.ref p)]) ?up ?dn (by decide) ?ho ?hcd ?hb ?hl ?c1 ?c2 ?c3 ?c4 ?_
    case ho => k_is
    case hcd => k_is
    case hb => walk_at "mine hb"
    case hl => exact locs rfl
    case c1 => exact rfl
    case c2 => exact rfl
    case c3 => exact rfl
    case c4 => decide
    case up => exact fun h h' k p => p.up k
    case dn => exact fun h h' r h'' k p => p
    intro dp un gd outer A₀ base g L s Q E mean mg mb B F X T hmut hpre hd hu hret
    have AN : Anc g s.heap := ⟨fun b o e => F.keep b o e⟩
    have AK : Since [p, dx] L s.heap s.heap := Since.refl
    obtain @⟨row, A, B, heard, left, choice, turn, send, es, av, pv, hp, hq, hpe, ia, ip⟩ := hpre
    have hne := neN (at_ne hq hp (dne rfl))
    have NT : NoTup s.heap [L, p, dx] := Fr.noTup F (.cons hp inst_noTup (.cons hq dict_noTup .nil))
    have N : News g L s.heap ((dx, dictOf es 12) :: (p, instObj 190 dx) :: restOf g L s.heap [p, dx]) := News.add (hmut dx (by k_mem)) hq (News.add (hmut p (by k_mem)) hp rest_news)
    with_reducible show wpAny _ _ _ _ _ _
    k_steps
    all_goals (try dsimp only)
    all_goals refine hret _ _ _ _ (by k_asm) (since_cons hq (News.get (by k_asm) (by k_mem)) (since_cons hp (News.get (by k_asm) (by k_mem)) (by walk_at "mine kept"))) ?_
    all_goals exact ⟨_, rfl, by walk_at "mine tup"⟩
  exact key rfl rfl

theorem lines_16 : True := by
  k_with "own call ref" => (k_here; (with_reducible show wpAny _ _ (call (Value.ref 187) _) _ _ _); k_dflt (refine' Does.use (told_bits_ok _ _ _ _) ?kB ?kF ?kX ?kT ?kk ?km_70 ?kp_70 ?kd ?ku ?_; walk_at "mine use"; (case kp_70 => walk_at "mine port"); (case km_70 => walk_at "mine own"); walk_at "mine room"); intro r' h' tk' F' K' P'; (dsimp only at P'); obtain ⟨v', e', t'⟩ := P'; subst e'; walk_at "mine anew")
  trivial

set_option maxHeartbeats 2000000 in
theorem set_own_ok (w : World) (p dx : Addr) (P : PS) (b : Int) (t : Tok) (z : Bool) :
    Does w 145 2 [.ref p, .int b t, .bool z] [p, dx] [dx] (fun h => PortAt w h p dx P) (fun h r h' => r = .bool (!decide (P.A.put b z = P.A)) ∧ PortAt w h' p dx ⟨P.row, P.A.put b z, P.B, P.heard, P.left, P.choice, P.turn, P.send⟩) := by
  have key : model PySem.Challenge.rw_xm0983_01.row.prog w = model PySem.Challenge.rw_xm0983_01.row.prog w → hd.heap_1 w.params = hd.heap_1 w.params →
      Does w 145 2 [.ref p, .int b t, .bool z] [p, dx] [dx] (fun h => PortAt w h p dx P) (fun h r h' => r = .bool (!decide (P.A.put b z = P.A)) ∧ PortAt w h' p dx ⟨P.row, P.A.put b z, P.B, P.heard, P.left, P.choice, P.turn, P.send⟩) := by
    k_fill
    intro _ _
    refine' does_of (binds := [(Str.ofString "self", Value.ref p), (Str.ofString "bit", Value.int b t), (Str.ofString "is_set", Value.bool z)]) ?up ?dn (by decide) ?ho ?hcd ?hb ?hl ?c1 ?c2 ?c3 ?c4 ?_
    case ho => k_is
    case hcd => k_is
    case hb => walk_at "mine hb"
    case hl => exact locs rfl
    case c1 => exact rfl
    case c2 => exact rfl
    case c3 => exact rfl
    case c4 => decide
    case up => exact fun h h' k p => p.up k
    case dn => exact fun h h' r h'' k p => p
    intro dp un gd outer A₀ base g L s Q E mean mg mb B F X T hmut hpre hd hu hret
    have AN : Anc g s.heap := ⟨fun b o e => F.keep b o e⟩
    have AK : Since [p, dx] L s.heap s.heap := Since.refl
    obtain @⟨row, A, B, heard, left, choice, turn, send, es, av, pv, hp, hq, hpe, ia, ip⟩ := hpre
    have hne := neN (at_ne hq hp (dne rfl))
    have NT : NoTup s.heap [L, p, dx] := Fr.noTup F (.cons hp inst_noTup (.cons hq dict_noTup .nil))
    have N : News g L s.heap ((dx, dictOf es 12) :: (p, instObj 190 dx) :: restOf g L s.heap [p, dx]) := News.add (hmut dx (by k_mem)) hq (News.add (hmut p (by k_mem)) hp rest_news)
    with_reducible show wpAny _ _ _ _ _ _
    k_steps
    all_goals (try dsimp only)
    all_goals refine hret _ _ _ _ (by k_asm) (since_cons hp (News.get (by k_asm) (by k_mem)) (by walk_at "mine kept")) ?_
    all_goals exact ⟨rfl, by walk_at "mine port"⟩
  exact key rfl rfl

theorem lines_17 : True := by
  k_with "own call ref" => (k_here; (with_reducible show wpAny _ _ (call (Value.ref 145) _) _ _ _); k_dflt (refine' Does.use (set_own_ok _ _ _ _ _ _ _) ?kB ?kF ?kX ?kT ?kk ?km_71 ?kp_71 ?kd ?ku ?_; walk_at "mine use"; (case kp_71 => walk_at "mine port"); (case km_71 => walk_at "mine own"); walk_at "mine room"); intro r' h' tk' F' K' P'; (dsimp only at P'); obtain ⟨e', pa'⟩ := P'; subst e'; obtain @⟨es', av', pv', hp', hq', pe', ia', ip'⟩ := PortAt.out pa'; walk_at "mine anew")
  trivial

-- text J
theorem text_J : True := by
  w_top off
  trivial
/-! a written test whose parts are plain is one truth value: no second path -/
section
variable (prog : Program) (w : World) (A : Around) (E : Value → Shared → Prop) (g : Heap) (L : Addr) (m : Str → Option Value) (l : List (Addr × Obj)) (env : Env) (s : Shared)
def Bo (e : PySem.Expr) (c : Bool) : Prop := ∀ (h : Heap) (tk : Nat) (Q : Value → Shared → Prop), Fr g L h m → News g L h l → (∀ h' tk', Fr g L h' m → News g L h' l → Q (.bool c) { s with heap := h', toks := tk' }) → wpAny (model prog w) A (eval e env) Q E { s with heap := h, toks := tk }
def Bt (e : PySem.Expr) (c : Bool) : Prop := ∀ (h : Heap) (tk : Nat) (Q : Bool → Shared → Prop), Fr g L h m → News g L h l → (∀ h' tk', Fr g L h' m → News g L h' l → Q c { s with heap := h', toks := tk' }) → wpAny (model prog w) A (isTrue e env (eval e env)) Q E { s with heap := h, toks := tk }
def Bs (e : PySem.Expr) (c : Str) : Prop := ∀ (h : Heap) (tk : Nat) (Q : Value → Shared → Prop), Fr g L h m → News g L h l → (∀ h' tk' t, Fr g L h' m → News g L h' l → Q (.str c t) { s with heap := h', toks := tk' }) → wpAny (model prog w) A (eval e env) Q E { s with heap := h, toks := tk }
def Bi (e : PySem.Expr) (c : Int) : Prop := ∀ (h : Heap) (tk : Nat) (Q : Value → Shared → Prop), Fr g L h m → News g L h l → (∀ h' tk' t, Fr g L h' m → News g L h' l → Q (.int c t) { s with heap := h', toks := tk' }) → wpAny (model prog w) A (eval e env) Q E { s with heap := h, toks := tk }
end
section
variable {prog : Program} {w : World} {A : Around} {E : Value → Shared → Prop} {g : Heap} {L : Addr} {m : Str → Option Value} {l : List (Addr × Obj)} {env : Env} {s : Shared} {e e₁ e₂ e₃ : PySem.Expr} {rest : List PySem.Expr} {pos : Pos} {c c₁ c₂ : Bool}
theorem Bo.mk (k : ∀ (h : Heap) (tk : Nat) (Q : Value → Shared → Prop), Fr g L h m → News g L h l → (∀ h' tk', Fr g L h' m → News g L h' l → Q (.bool c) { s with heap := h', toks := tk' }) → wpAny (model prog w) A (eval e env) Q E { s with heap := h, toks := tk }) : Bo prog w A E g L m l env s e c := k
theorem Bt.mk (k : ∀ (h : Heap) (tk : Nat) (Q : Bool → Shared → Prop), Fr g L h m → News g L h l → (∀ h' tk', Fr g L h' m → News g L h' l → Q c { s with heap := h', toks := tk' }) → wpAny (model prog w) A (isTrue e env (eval e env)) Q E { s with heap := h, toks := tk }) : Bt prog w A E g L m l env s e c := k
theorem Bs.mk {c : Str} (k : ∀ (h : Heap) (tk : Nat) (Q : Value → Shared → Prop), Fr g L h m → News g L h l → (∀ h' tk' t, Fr g L h' m → News g L h' l → Q (.str c t) { s with heap := h', toks := tk' }) → wpAny (model prog w) A (eval e env) Q E { s with heap := h, toks := tk }) : Bs prog w A E g L m l env s e c := k
theorem Bi.mk {c : Int} (k : ∀ (h : Heap) (tk : Nat) (Q : Value → Shared → Prop), Fr g L h m → News g L h l → (∀ h' tk' t, Fr g L h' m → News g L h' l → Q (.int c t) { s with heap := h', toks := tk' }) → wpAny (model prog w) A (eval e env) Q E { s with heap := h, toks := tk }) : Bi prog w A E g L m l env s e c := k
theorem Bo.one {op : PySem.BoolOp} (a : Bo prog w A E g L m l env s e c) : Bo prog w A E g L m l env s (.BoolOp op [e] pos) c := fun h tk Q F N k => BoolOp_one (a h tk Q F N k)
theorem Bo.and (a : Bo prog w A E g L m l env s e₁ c₁) (b : Bo prog w A E g L m l env s (.BoolOp .And (e₂ :: rest) pos) c₂) : Bo prog w A E g L m l env s (.BoolOp .And (e₁ :: e₂ :: rest) pos) (c₁ && c₂) := fun h tk Q F N k => by
  refine BoolOp_and (a h tk _ F N fun h' tk' F' N' => wpAny_truthy_bool ?_)
  cases c₁ with
  | false => exact k h' tk' F' N'
  | true => exact b h' tk' Q F' N' k
theorem Bo.or (a : Bo prog w A E g L m l env s e₁ c₁) (b : Bo prog w A E g L m l env s (.BoolOp .Or (e₂ :: rest) pos) c₂) : Bo prog w A E g L m l env s (.BoolOp .Or (e₁ :: e₂ :: rest) pos) (c₁ || c₂) := fun h tk Q F N k => by
  refine BoolOp_or (a h tk _ F N fun h' tk' F' N' => wpAny_truthy_bool ?_)
  cases c₁ with
  | true => exact k h' tk' F' N'
  | false => exact b h' tk' Q F' N' k
theorem Bt.and0 : Bt prog w A E g L m l env s (.BoolOp .And [] pos) true := fun h tk _ F N k => isTrue_and_nil (k h tk F N)
theorem Bt.or0 : Bt prog w A E g L m l env s (.BoolOp .Or [] pos) false := fun h tk _ F N k => isTrue_or_nil (k h tk F N)
theorem Bt.and (a : Bt prog w A E g L m l env s e₁ c₁) (b : Bt prog w A E g L m l env s (.BoolOp .And rest pos) c₂) : Bt prog w A E g L m l env s (.BoolOp .And (e₁ :: rest) pos) (c₁ && c₂) := fun h tk Q F N k => by
  refine isTrue_and (a h tk _ F N fun h' tk' F' N' => ?_)
  cases c₁ with
  | false => exact k h' tk' F' N'
  | true => exact b h' tk' Q F' N' k
theorem Bt.or (a : Bt prog w A E g L m l env s e₁ c₁) (b : Bt prog w A E g L m l env s (.BoolOp .Or rest pos) c₂) : Bt prog w A E g L m l env s (.BoolOp .Or (e₁ :: rest) pos) (c₁ || c₂) := fun h tk Q F N k => by
  refine isTrue_or (a h tk _ F N fun h' tk' F' N' => ?_)
  cases c₁ with
  | true => exact k h' tk' F' N'
  | false => exact b h' tk' Q F' N' k
theorem Bt.and1 (a : Bt prog w A E g L m l env s e c) : Bt prog w A E g L m l env s (.BoolOp .And [e] pos) c := fun h tk Q F N k => by
  refine isTrue_and (a h tk _ F N fun h' tk' F' N' => ?_)
  cases c with
  | false => exact k h' tk' F' N'
  | true => exact isTrue_and_nil (k h' tk' F' N')
theorem Bt.or1 (a : Bt prog w A E g L m l env s e c) : Bt prog w A E g L m l env s (.BoolOp .Or [e] pos) c := fun h tk Q F N k => by
  refine isTrue_or (a h tk _ F N fun h' tk' F' N' => ?_)
  cases c with
  | true => exact k h' tk' F' N'
  | false => exact isTrue_or_nil (k h' tk' F' N')
theorem Bt.not (a : Bt prog w A E g L m l env s e c) : Bt prog w A E g L m l env s (.UnaryOp .Not e pos) (!c) := fun h tk Q F N k => isTrue_not (a h tk _ F N fun h' tk' F' N' => k h' tk' F' N')
theorem Bs.ite {x y : Str} (a : Bt prog w A E g L m l env s e₁ c) (b : Bs prog w A E g L m l env s e₂ x) (d : Bs prog w A E g L m l env s e₃ y) : Bs prog w A E g L m l env s (.IfExp e₁ e₂ e₃ pos) (if c then x else y) := fun h tk Q F N k => by
  refine IfExp_ (a h tk _ F N fun h' tk' F' N' => ?_)
  cases c with
  | true => exact b h' tk' Q F' N' k
  | false => exact d h' tk' Q F' N' k
theorem Bi.ite {x y : Int} (a : Bt prog w A E g L m l env s e₁ c) (b : Bi prog w A E g L m l env s e₂ x) (d : Bi prog w A E g L m l env s e₃ y) : Bi prog w A E g L m l env s (.IfExp e₁ e₂ e₃ pos) (if c then x else y) := fun h tk Q F N k => by
  refine IfExp_ (a h tk _ F N fun h' tk' F' N' => ?_)
  cases c with
  | true => exact b h' tk' Q F' N' k
  | false => exact d h' tk' Q F' N' k
theorem Bo.use {Q : Value → Shared → Prop} (F : Fr g L s.heap m) (N : News g L s.heap l) (a : Bo prog w A E g L m l env s e c) (k : ∀ h' tk', Fr g L h' m → News g L h' l → Q (.bool c) { s with heap := h', toks := tk' }) : wpAny (model prog w) A (eval e env) Q E s := a s.heap s.toks Q F N k
theorem Bt.use {Q : Bool → Shared → Prop} (F : Fr g L s.heap m) (N : News g L s.heap l) (a : Bt prog w A E g L m l env s e c) (k : ∀ h' tk', Fr g L h' m → News g L h' l → Q c { s with heap := h', toks := tk' }) : wpAny (model prog w) A (isTrue e env (eval e env)) Q E s := a s.heap s.toks Q F N k
theorem Bs.use {Q : Value → Shared → Prop} {x : Str} (F : Fr g L s.heap m) (N : News g L s.heap l) (a : Bs prog w A E g L m l env s e x) (k : ∀ h' tk' t, Fr g L h' m → News g L h' l → Q (.str x t) { s with heap := h', toks := tk' }) : wpAny (model prog w) A (eval e env) Q E s := a s.heap s.toks Q F N k
theorem Bi.use {Q : Value → Shared → Prop} {x : Int} (F : Fr g L s.heap m) (N : News g L s.heap l) (a : Bi prog w A E g L m l env s e x) (k : ∀ h' tk' t, Fr g L h' m → News g L h' l → Q (.int x t) { s with heap := h', toks := tk' }) : wpAny (model prog w) A (eval e env) Q E s := a s.heap s.toks Q F N k
end
theorem News.less {g h : Heap} {L : Addr} {l l' : List (Addr × Obj)} (N : News g L h l') (hs : ∀ p ∈ l, p ∈ l') : News g L h l := fun p hp => N p (hs p hp)
theorem lines_18 : True := by
  k_with "own mine leaf" => ((with_reducible rename Fr _ _ _ _ => kF); (with_reducible rename News _ _ _ _ => kN); (with_reducible first | apply Bo.mk | apply Bt.mk | apply Bs.mk | apply Bi.mk); intro s' tk' Q' F' N' k'; (try dsimp only at k'); (try dsimp only); k_steps; first | exact k' _ _ (by k_asm) (News.less (by k_asm) (by walk_at "mine sub")) | exact k' _ _ _ (by k_asm) (News.less (by k_asm) (by walk_at "mine sub")))
  trivial

local macro_rules | `(tactic| walk_at "mine bt") => `(tactic| first | ((with_reducible refine' Bt.and1 ?a); (case a => walk_at "mine bt")) | ((with_reducible refine' Bt.or1 ?a); (case a => walk_at "mine bt")) | ((with_reducible refine' Bt.and ?a ?b); (case a => walk_at "mine bt"); (case b => walk_at "mine bt")) | ((with_reducible refine' Bt.or ?a ?b); (case a => walk_at "mine bt"); (case b => walk_at "mine bt")) | ((with_reducible refine' Bt.not ?a); (case a => walk_at "mine bt")) | walk_at "mine leaf")
local macro_rules | `(tactic| walk_at "mine bo") => `(tactic| first | ((with_reducible refine' Bo.one ?a); (case a => walk_at "mine bo")) | ((with_reducible refine' Bo.and ?a ?b); (case a => walk_at "mine bo"); (case b => walk_at "mine bo")) | ((with_reducible refine' Bo.or ?a ?b); (case a => walk_at "mine bo"); (case b => walk_at "mine bo")) | walk_at "mine leaf")
theorem lines_19 : True := by
  k_with "own eval BoolOp" => (k_here; k_dflt (refine' Bo.use ?F_73 ?N_73 ?b_73 ?_; (case F_73 => k_asm); (case N_73 => k_asm); (case b_73 => walk_at "mine bo")); intro h' tk' F' N'; (try k_sweep))
  k_with "own isTrue BoolOp" => (k_here; k_dflt (refine' Bt.use ?F_74 ?N_74 ?b_74 ?_; (case F_74 => k_asm); (case N_74 => k_asm); (case b_74 => walk_at "mine bt")); intro h' tk' F' N'; (try k_sweep))
  k_with "own eval IfExp" => (k_here; k_dflt (refine' Bs.use ?F_75 ?N_75 ?b_75 ?_; (case F_75 => k_asm); (case N_75 => k_asm); (case b_75 => ((with_reducible refine' Bs.ite ?a_75 ?b_75 ?d_75); (case a_75 => walk_at "mine bt"); (case b_75 => walk_at "mine leaf"); (case d_75 => walk_at "mine leaf")))); intro h' tk' t' F' N'; (try k_sweep))
  k_with "own eval IfExp" => (k_here; k_dflt (refine' Bi.use ?F_76 ?N_76 ?b_76 ?_; (case F_76 => k_asm); (case N_76 => k_asm); (case b_76 => ((with_reducible refine' Bi.ite ?a_76 ?b_76 ?d_76); (case a_76 => walk_at "mine bt"); (case b_76 => walk_at "mine leaf"); (case d_76 => walk_at "mine leaf")))); intro h' tk' t' F' N'; (try k_sweep))
  trivial

-- text C3
theorem text_C3 : True := by
  w_top off
  trivial

/-- a message -/
inductive PduAt (w : World) (h : Heap) (x xd : Addr) : Info → Info → Prop where
  | mk {DA DB : Info} {j0 j1 j2 : Tok} {ua ub : Addr} {y : Value} : h.get? x = some (instObj 49 xd) → h.get? xd = some (dictOf [⟨PyData.keyHash w.params (Str.ofString "actor"), .str (Str.ofString "actor") j0, .ref ua⟩, ⟨PyData.keyHash w.params (Str.ofString "partner"), .str (Str.ofString "partner") j1, .ref ub⟩, ⟨PyData.keyHash w.params (Str.ofString "most_delay"), .str (Str.ofString "most_delay") j2, y⟩] 3) → InfoAt h ua DA → InfoAt h ub DB → PduAt w h x xd DA DB
theorem PduAt.up {w : World} {h h' : Heap} {x xd : Addr} {DA DB : Info} (k : ∀ a o, h.get? a = some o → h'.get? a = some o) : PduAt w h x xd DA DB → PduAt w h' x xd DA DB
  | .mk a b c d => .mk (k _ _ a) (k _ _ b) (all_info k c) (all_info k d)
/-- a place in the text where the paths meet -/
structure Seg (M : Model) (A : Around) (l : List Stmt) (env : Env) (Q : Flow → Shared → Prop) (E : Value → Shared → Prop) (J : Shared → Prop) : Prop where
  use : ∀ s, J s → wpAny M A (execs l env) Q E s
theorem seg_use {M : Model} {A : Around} {l : List Stmt} {env : Env} {Q : Flow → Shared → Prop} {E : Value → Shared → Prop} {J : Shared → Prop} {s : Shared} (S : Seg M A l env Q E J) (h : J s) : wpAny M A (execs l env) Q E s := S.use s h
theorem cut_at {M : Model} {A : Around} {l : List Stmt} {env : Env} {Q : Flow → Shared → Prop} {E : Value → Shared → Prop} {s : Shared} (n : Nat) (J : Shared → Prop) (C : ∀ s', J s' → wpAny M A (execs (l.drop n) env) Q E s') (k : Seg M A (l.drop n) env Q E J → wpAny M A (execs l env) Q E s) : wpAny M A (execs l env) Q E s := k ⟨C⟩
def Hold (P : Prop) : Prop := P
theorem hold {P : Prop} (h : P) : Hold P := h
theorem Hold.out {P : Prop} (h : Hold P) : P := h
theorem lines_20 : True := by
  k_with "own execs cons" => (k_here; refine seg_use (by with_reducible assumption) ?_)
  trivial

theorem PEs.of2 {w : World} {row av pv : Addr} {heard : Str} {left : Int} {choice c : Str} {turn : Int} {send z : Bool} {es : List DictEntry} (h : PEs w row av pv heard left choice turn send es) (e1 : choice = c) (e2 : send = z) : PEs w row av pv heard left c turn z es := e1 ▸ e2 ▸ h
theorem lines_21 : True := by
  k_with "own mine pdu" => exact PduAt.mk (News.get (by k_asm) (by k_mem)) (News.get (by k_asm) (by k_mem)) (by walk_at "mine info") (by walk_at "mine info")
  trivial

theorem PortAt.of {w : World} {h : Heap} {p dx : Addr} {P P' : PS} (a : PortAt w h p dx P) (e : P = P') : PortAt w h p dx P' := e ▸ a

def NB : Info := ⟨0, 0, 0, 0, 0, 56⟩
def beginP (P : PS) : PS := ⟨P.row, P.A.put 128 true, (P.B.put 8 false).put 2 true, Str.ofString "expired", 3, P.choice, if hb ((P.B.put 8 false).put 2 true).st 2 then 1 else 30, true⟩
def silentP (P : PS) : PS := if P.heard == Str.ofString "current" then beginP P else
  ⟨P.row, (P.A.put 128 false).put 64 true, NB, Str.ofString "defaulted", P.left, if !P.B.ends NB || !hb P.A.st 64 then Str.ofString "unselected" else P.choice, P.turn, P.send⟩
def knowsI (A DB : Info) : Bool := DB.ends A && (Builtin.bitAnd (Builtin.bitXor DB.st A.st) 15 == 0)
def stepI (A DA DB : Info) : Bool := hb DA.st 8 && (hb DA.st 1 || (hb A.st 1 && hb DB.st 1)) && (DB.same A || !hb DA.st 4)
def hearP (P : PS) (DA DB : Info) : PS :=
  ⟨P.row, (P.A.put 64 false).put 128 false, DA.put 8 (stepI P.A DA DB), Str.ofString "current", if hb ((P.A.put 64 false).put 128 false).st 2 then 3 else 90,
    if !DA.same P.B || hb P.A.st 64 then Str.ofString "unselected" else P.choice,
    if !hb P.B.st 2 && hb (DA.put 8 (stepI P.A DA DB)).st 2 then 0 else P.turn, (!hb P.B.st 2 && hb (DA.put 8 (stepI P.A DA DB)).st 2) || !knowsI P.A DB || P.send⟩

set_option maxHeartbeats 2000000 in
theorem begin_link_ok (w : World) (p dx : Addr) (P : PS)  :
    Does w 201 4 [.ref p] [p, dx] [dx] (fun h => PortAt w h p dx P) (fun h r h' => r = .none ∧ PortAt w h' p dx (beginP P)) := by
  have key : model PySem.Challenge.rw_xm0983_01.row.prog w = model PySem.Challenge.rw_xm0983_01.row.prog w → hd.heap_1 w.params = hd.heap_1 w.params →
      Does w 201 4 [.ref p] [p, dx] [dx] (fun h => PortAt w h p dx P) (fun h r h' => r = .none ∧ PortAt w h' p dx (beginP P)) := by
    k_fill
    intro _ _
    refine' does_of (binds := [(Str.ofString "port", Value.ref p)]) ?up ?dn (by decide) ?ho ?hcd ?hb ?hl ?c1 ?c2 ?c3 ?c4 ?_
    case ho => k_is
    case hcd => k_is
    case hb => walk_at "mine hb"
    case hl => exact locs rfl
    case c1 => exact rfl
    case c2 => exact rfl
    case c3 => exact rfl
    case c4 => decide
    case up => exact fun h h' k p => p.up k
    case dn => exact fun h h' r h'' k p => p
    intro dp un gd outer A₀ base g L s Q E mean mg mb B F X T hmut hpre hd hu hret
    have AN : Anc g s.heap := ⟨fun b o e => F.keep b o e⟩
    have AK : Since [p, dx] L s.heap s.heap := Since.refl
    obtain @⟨row, A, B, heard, left, choice, turn, send, es, av, pv, hp, hq, hpe, ia, ip⟩ := hpre
    have hne := neN (at_ne hq hp (dne rfl))
    have NT : NoTup s.heap [L, p, dx] := Fr.noTup F (.cons hp inst_noTup (.cons hq dict_noTup .nil))
    have N : News g L s.heap ((dx, dictOf es 12) :: (p, instObj 190 dx) :: restOf g L s.heap [p, dx]) := News.add (hmut dx (by k_mem)) hq (News.add (hmut p (by k_mem)) hp rest_news)
    with_reducible show wpAny _ _ _ _ _ _
    k_steps
    all_goals (try dsimp only)
    all_goals refine hret _ _ _ _ (by k_asm) (since_cons hp (News.get (by k_asm) (by k_mem)) (by walk_at "mine kept")) ?_
    all_goals exact ⟨rfl, PortAt.of (by walk_at "mine port") rfl⟩
  exact key rfl rfl

theorem lines_22 : True := by
  k_with "own call ref" => (k_here; (with_reducible show wpAny _ _ (call (Value.ref 201) _) _ _ _); k_dflt (refine' Does.use (begin_link_ok _ _ _ _) ?kB ?kF ?kX ?kT ?kk ?km_79 ?kp_79 ?kd ?ku ?_; walk_at "mine use"; (case kp_79 => walk_at "mine port"); (case km_79 => walk_at "mine own"); walk_at "mine room"); intro r' h' tk' F' K' P'; (dsimp only [beginP] at P'); obtain ⟨e', pa'⟩ := P'; subst e'; obtain @⟨es', av', pv', hp', hq', pe', ia', ip'⟩ := PortAt.out pa'; walk_at "mine anew")
  trivial

set_option maxHeartbeats 2000000 in
theorem fall_silent_ok (w : World) (p dx : Addr) (P : PS)  :
    Does w 208 5 [.ref p] [p, dx] [dx] (fun h => PortAt w h p dx P) (fun h r h' => r = .none ∧ PortAt w h' p dx (silentP P)) := by
  have key : model PySem.Challenge.rw_xm0983_01.row.prog w = model PySem.Challenge.rw_xm0983_01.row.prog w → hd.heap_1 w.params = hd.heap_1 w.params →
      Does w 208 5 [.ref p] [p, dx] [dx] (fun h => PortAt w h p dx P) (fun h r h' => r = .none ∧ PortAt w h' p dx (silentP P)) := by
    k_fill
    intro _ _
    refine' does_of (binds := [(Str.ofString "port", Value.ref p)]) ?up ?dn (by decide) ?ho ?hcd ?hb ?hl ?c1 ?c2 ?c3 ?c4 ?_
    case ho => k_is
    case hcd => k_is
    case hb => walk_at "mine hb"
    case hl => exact locs rfl
    case c1 => exact rfl
    case c2 => exact rfl
    case c3 => exact rfl
    case c4 => decide
    case up => exact fun h h' k p => p.up k
    case dn => exact fun h h' r h'' k p => p
    intro dp un gd outer A₀ base g L s Q E mean mg mb B F X T hmut hpre hd hu hret
    have AN : Anc g s.heap := ⟨fun b o e => F.keep b o e⟩
    have AK : Since [p, dx] L s.heap s.heap := Since.refl
    obtain @⟨row, A, B, heard, left, choice, turn, send, es, av, pv, hp, hq, hpe, ia, ip⟩ := hpre
    have hne := neN (at_ne hq hp (dne rfl))
    have NT : NoTup s.heap [L, p, dx] := Fr.noTup F (.cons hp inst_noTup (.cons hq dict_noTup .nil))
    have N : News g L s.heap ((dx, dictOf es 12) :: (p, instObj 190 dx) :: restOf g L s.heap [p, dx]) := News.add (hmut dx (by k_mem)) hq (News.add (hmut p (by k_mem)) hp rest_news)
    with_reducible show wpAny _ _ _ _ _ _
    have nb : InfoAt s.heap 24 NB := InfoAt.mk 22 23 214 218 0 (F.keep _ _ (X _ _ (by k_is))) (.mk 212 213 0 (F.keep _ _ (X _ _ (by k_is)))) (.mk 215 216 0 (F.keep _ _ (X _ _ (by k_is))))
    k_steps
    all_goals (try dsimp only)
    all_goals refine hret _ _ _ _ (by k_asm) (since_cons hp (News.get (by k_asm) (by k_mem)) (by walk_at "mine kept")) ?_
    all_goals exact ⟨rfl, PortAt.of (by walk_at "mine port") (by first | (simp [silentP, beginP, *]; done) | simp_all [silentP, beginP])⟩
  exact key rfl rfl

set_option maxHeartbeats 2000000 in
theorem knows_us_ok (w : World) (p dx x xd : Addr) (P : PS) (DA DB : Info)  :
    Does w 222 2 [.ref p, .ref x] [x, xd, p, dx] [] (fun h => PortAt w h p dx P ∧ PduAt w h x xd DA DB ∧ True) (fun h r h' => r = .bool (knowsI P.A DB)) := by
  have key : model PySem.Challenge.rw_xm0983_01.row.prog w = model PySem.Challenge.rw_xm0983_01.row.prog w → hd.heap_1 w.params = hd.heap_1 w.params →
      Does w 222 2 [.ref p, .ref x] [x, xd, p, dx] [] (fun h => PortAt w h p dx P ∧ PduAt w h x xd DA DB ∧ True) (fun h r h' => r = .bool (knowsI P.A DB)) := by
    k_fill
    intro _ _
    refine' does_of (binds := [(Str.ofString "port", Value.ref p), (Str.ofString "pdu", Value.ref x)]) ?up ?dn (by decide) ?ho ?hcd ?hb ?hl ?c1 ?c2 ?c3 ?c4 ?_
    case ho => k_is
    case hcd => k_is
    case hb => walk_at "mine hb"
    case hl => exact locs rfl
    case c1 => exact rfl
    case c2 => exact rfl
    case c3 => exact rfl
    case c4 => decide
    case up => exact fun h h' k q => ⟨q.1.up k, q.2.1.up k, q.2.2⟩
    case dn => exact fun h h' r h'' k p => p
    intro dp un gd outer A₀ base g L s Q E mean mg mb B F X T hmut hpre hd hu hret
    have AN : Anc g s.heap := ⟨fun b o e => F.keep b o e⟩
    have AK : Since [x, xd, p, dx] L s.heap s.heap := Since.refl
    obtain ⟨hpre, hpdu, hup⟩ := hpre
    obtain @⟨row, A, B, heard, left, choice, turn, send, es, av, pv, hp, hq, hpe, ia, ip⟩ := hpre
    obtain @⟨j0, j1, j2, ua, ub, y, hx, hz, ja, jb⟩ := hpdu
    have hne := neN (at_ne hq hp (dne rfl))
    have hne2 := neN (at_ne hq hx (dne rfl))
    have hne3 := neN (at_ne hq hz (by simp))
    have NT : NoTup s.heap [L, x, xd, p, dx] := Fr.noTup F (.cons hx inst_noTup (.cons hz dict_noTup (.cons hp inst_noTup (.cons hq dict_noTup .nil))))
    have N : News g L s.heap ((dx, dictOf es 12) :: (p, instObj 190 dx) :: (x, instObj 49 xd) :: (xd, dictOf [⟨PyData.keyHash w.params (Str.ofString "actor"), .str (Str.ofString "actor") j0, .ref ua⟩, ⟨PyData.keyHash w.params (Str.ofString "partner"), .str (Str.ofString "partner") j1, .ref ub⟩, ⟨PyData.keyHash w.params (Str.ofString "most_delay"), .str (Str.ofString "most_delay") j2, y⟩] 3) :: restOf g L s.heap [x, xd, p, dx]) := News.add (hmut dx (by k_mem)) hq (News.add (hmut p (by k_mem)) hp (News.add (hmut x (by k_mem)) hx (News.add (hmut xd (by k_mem)) hz rest_news)))
    with_reducible show wpAny _ _ _ _ _ _
    k_steps
    all_goals (try dsimp only)
    all_goals refine hret _ _ _ _ (by k_asm) (since_cons hq (News.get (by k_asm) (by k_mem)) (since_cons hp (News.get (by k_asm) (by k_mem)) (since_cons hz (News.get (by k_asm) (by k_mem)) (since_cons hx (News.get (by k_asm) (by k_mem)) (by walk_at "mine kept"))))) ?_
    all_goals simp_all [knowsI]
  exact key rfl rfl

theorem lines_23 : True := by
  k_with "own call ref" => (k_here; (with_reducible show wpAny _ _ (call (Value.ref 222) _) _ _ _); k_dflt (refine' Does.use (knows_us_ok _ _ _ _ _ _ _ _) ?kB ?kF ?kX ?kT ?kk ?km_80 ?kp_80 ?kd ?ku ?_; walk_at "mine use"; (case kp_80 => exact ⟨by walk_at "mine port", by walk_at "mine pdu", trivial⟩); (case km_80 => walk_at "mine own"); walk_at "mine room"); intro r' h' tk' F' K' P'; walk_at "mine after"; (try dsimp only at P'); subst P')
  trivial

set_option maxHeartbeats 2000000 in
theorem is_in_step_ok (w : World) (p dx x xd : Addr) (P : PS) (DA DB : Info)  :
    Does w 229 3 [.ref p, .ref x] [x, xd, p, dx] [] (fun h => PortAt w h p dx P ∧ PduAt w h x xd DA DB ∧ True) (fun h r h' => r = .bool (stepI P.A DA DB)) := by
  have key : model PySem.Challenge.rw_xm0983_01.row.prog w = model PySem.Challenge.rw_xm0983_01.row.prog w → hd.heap_1 w.params = hd.heap_1 w.params →
      Does w 229 3 [.ref p, .ref x] [x, xd, p, dx] [] (fun h => PortAt w h p dx P ∧ PduAt w h x xd DA DB ∧ True) (fun h r h' => r = .bool (stepI P.A DA DB)) := by
    k_fill
    intro _ _
    refine' does_of (binds := [(Str.ofString "port", Value.ref p), (Str.ofString "pdu", Value.ref x)]) ?up ?dn (by decide) ?ho ?hcd ?hb ?hl ?c1 ?c2 ?c3 ?c4 ?_
    case ho => k_is
    case hcd => k_is
    case hb => walk_at "mine hb"
    case hl => exact locs rfl
    case c1 => exact rfl
    case c2 => exact rfl
    case c3 => exact rfl
    case c4 => decide
    case up => exact fun h h' k q => ⟨q.1.up k, q.2.1.up k, q.2.2⟩
    case dn => exact fun h h' r h'' k p => p
    intro dp un gd outer A₀ base g L s Q E mean mg mb B F X T hmut hpre hd hu hret
    have AN : Anc g s.heap := ⟨fun b o e => F.keep b o e⟩
    have AK : Since [x, xd, p, dx] L s.heap s.heap := Since.refl
    obtain ⟨hpre, hpdu, hup⟩ := hpre
    obtain @⟨row, A, B, heard, left, choice, turn, send, es, av, pv, hp, hq, hpe, ia, ip⟩ := hpre
    obtain @⟨j0, j1, j2, ua, ub, y, hx, hz, ja, jb⟩ := hpdu
    have hne := neN (at_ne hq hp (dne rfl))
    have hne2 := neN (at_ne hq hx (dne rfl))
    have hne3 := neN (at_ne hq hz (by simp))
    have NT : NoTup s.heap [L, x, xd, p, dx] := Fr.noTup F (.cons hx inst_noTup (.cons hz dict_noTup (.cons hp inst_noTup (.cons hq dict_noTup .nil))))
    have N : News g L s.heap ((dx, dictOf es 12) :: (p, instObj 190 dx) :: (x, instObj 49 xd) :: (xd, dictOf [⟨PyData.keyHash w.params (Str.ofString "actor"), .str (Str.ofString "actor") j0, .ref ua⟩, ⟨PyData.keyHash w.params (Str.ofString "partner"), .str (Str.ofString "partner") j1, .ref ub⟩, ⟨PyData.keyHash w.params (Str.ofString "most_delay"), .str (Str.ofString "most_delay") j2, y⟩] 3) :: restOf g L s.heap [x, xd, p, dx]) := News.add (hmut dx (by k_mem)) hq (News.add (hmut p (by k_mem)) hp (News.add (hmut x (by k_mem)) hx (News.add (hmut xd (by k_mem)) hz rest_news)))
    with_reducible show wpAny _ _ _ _ _ _
    k_steps
    all_goals (try dsimp only)
    all_goals refine hret _ _ _ _ (by k_asm) (since_cons hq (News.get (by k_asm) (by k_mem)) (since_cons hp (News.get (by k_asm) (by k_mem)) (since_cons hz (News.get (by k_asm) (by k_mem)) (since_cons hx (News.get (by k_asm) (by k_mem)) (by walk_at "mine kept"))))) ?_
    all_goals first | (simp_all [stepI]; done) | (simp_all [stepI]; grind)
  exact key rfl rfl

theorem lines_24 : True := by
  k_with "own call ref" => (k_here; (with_reducible show wpAny _ _ (call (Value.ref 229) _) _ _ _); k_dflt (refine' Does.use (is_in_step_ok _ _ _ _ _ _ _ _) ?kB ?kF ?kX ?kT ?kk ?km_81 ?kp_81 ?kd ?ku ?_; walk_at "mine use"; (case kp_81 => exact ⟨by walk_at "mine port", by walk_at "mine pdu", trivial⟩); (case km_81 => walk_at "mine own"); walk_at "mine room"); intro r' h' tk' F' K' P'; walk_at "mine after"; (try dsimp only at P'); subst P')
  trivial

set_option maxHeartbeats 2000000 in
theorem hear_ok (w : World) (p dx x xd : Addr) (P : PS) (DA DB : Info)  :
    Does w 236 4 [.ref p, .ref x] [x, xd, p, dx] [dx] (fun h => PortAt w h p dx P ∧ PduAt w h x xd DA DB ∧ (P.heard == Str.ofString "disabled") = false) (fun h r h' => r = .none ∧ PortAt w h' p dx (hearP P DA DB)) := by
  have key : model PySem.Challenge.rw_xm0983_01.row.prog w = model PySem.Challenge.rw_xm0983_01.row.prog w → hd.heap_1 w.params = hd.heap_1 w.params →
      Does w 236 4 [.ref p, .ref x] [x, xd, p, dx] [dx] (fun h => PortAt w h p dx P ∧ PduAt w h x xd DA DB ∧ (P.heard == Str.ofString "disabled") = false) (fun h r h' => r = .none ∧ PortAt w h' p dx (hearP P DA DB)) := by
    k_fill
    intro _ _
    refine' does_of (binds := [(Str.ofString "port", Value.ref p), (Str.ofString "pdu", Value.ref x)]) ?up ?dn (by decide) ?ho ?hcd ?hb ?hl ?c1 ?c2 ?c3 ?c4 ?_
    case ho => k_is
    case hcd => k_is
    case hb => walk_at "mine hb"
    case hl => exact locs rfl
    case c1 => exact rfl
    case c2 => exact rfl
    case c3 => exact rfl
    case c4 => decide
    case up => exact fun h h' k q => ⟨q.1.up k, q.2.1.up k, q.2.2⟩
    case dn => exact fun h h' r h'' k p => p
    intro dp un gd outer A₀ base g L s Q E mean mg mb B F X T hmut hpre hd hu hret
    have AN : Anc g s.heap := ⟨fun b o e => F.keep b o e⟩
    have AK : Since [x, xd, p, dx] L s.heap s.heap := Since.refl
    obtain ⟨hpre, hpdu, hup⟩ := hpre
    obtain @⟨row, A, B, heard, left, choice, turn, send, es, av, pv, hp, hq, hpe, ia, ip⟩ := hpre
    obtain @⟨j0, j1, j2, ua, ub, y, hx, hz, ja, jb⟩ := hpdu
    have hne := neN (at_ne hq hp (dne rfl))
    have hne2 := neN (at_ne hq hx (dne rfl))
    have hne3 := neN (at_ne hq hz (by simp))
    have NT : NoTup s.heap [L, x, xd, p, dx] := Fr.noTup F (.cons hx inst_noTup (.cons hz dict_noTup (.cons hp inst_noTup (.cons hq dict_noTup .nil))))
    have N : News g L s.heap ((dx, dictOf es 12) :: (p, instObj 190 dx) :: (x, instObj 49 xd) :: (xd, dictOf [⟨PyData.keyHash w.params (Str.ofString "actor"), .str (Str.ofString "actor") j0, .ref ua⟩, ⟨PyData.keyHash w.params (Str.ofString "partner"), .str (Str.ofString "partner") j1, .ref ub⟩, ⟨PyData.keyHash w.params (Str.ofString "most_delay"), .str (Str.ofString "most_delay") j2, y⟩] 3) :: restOf g L s.heap [x, xd, p, dx]) := News.add (hmut dx (by k_mem)) hq (News.add (hmut p (by k_mem)) hp (News.add (hmut x (by k_mem)) hx (News.add (hmut xd (by k_mem)) hz rest_news)))
    with_reducible show wpAny _ _ _ _ _ _
    dsimp only at hup
    refine cut_at 3 (fun s' => Hold (∃ h tk es', s' = { s with heap := h, toks := tk } ∧ Fr g L h (fun y => List.lookup y [(Str.ofString "port", Value.ref p), (Str.ofString "pdu", Value.ref x)].reverse) ∧
      News g L h ((dx, dictOf es' 12) :: (p, instObj 190 dx) :: (x, instObj 49 xd) :: (xd, dictOf [⟨PyData.keyHash w.params (Str.ofString "actor"), .str (Str.ofString "actor") j0, .ref ua⟩, ⟨PyData.keyHash w.params (Str.ofString "partner"), .str (Str.ofString "partner") j1, .ref ub⟩, ⟨PyData.keyHash w.params (Str.ofString "most_delay"), .str (Str.ofString "most_delay") j2, y⟩] 3) :: restOf g L s.heap [x, xd, p, dx]) ∧
      PEs w row av pv heard left (if !DA.same B || hb A.st 64 then Str.ofString "unselected" else choice) turn (!knowsI A DB || send) es')) ?C fun hC => ?_
    rotate_left
    · dsimp only [List.drop] at hC
      k_steps
      all_goals first
        | (refine hold ⟨_, _, _, rfl, by k_asm, by k_asm, PEs.of2 (by with_reducible assumption) ?_ ?_⟩ <;> first | (simp [*]; done) | simp_all)
        | (exfalso; simp_all; done)
    case C =>
      clear F N hpe
      intro s' hJ
      obtain ⟨h, tk, es, rfl, F, N, hpe⟩ := Hold.out hJ
      dsimp only [List.drop]
      k_steps
      all_goals (try dsimp only)
      all_goals refine hret _ _ _ _ (by k_asm) (since_cons hp (News.get (by k_asm) (by k_mem)) (since_cons hz (News.get (by k_asm) (by k_mem)) (since_cons hx (News.get (by k_asm) (by k_mem)) (by walk_at "mine kept")))) ?_
      all_goals exact ⟨rfl, PortAt.of (by walk_at "mine port") (by first | (simp [hearP, *]; done) | simp_all [hearP])⟩

  exact key rfl rfl

theorem lines_25 : True := by
  k_with "own call ref" => (k_here; (with_reducible show wpAny _ _ (call (Value.ref 236) _) _ _ _); k_dflt (refine' Does.use (hear_ok _ _ _ _ _ _ _ _) ?kB ?kF ?kX ?kT ?kk ?km_82 ?kp_82 ?kd ?ku ?_; walk_at "mine use"; (case kp_82 => exact ⟨by walk_at "mine port", by walk_at "mine pdu", by assumption⟩); (case km_82 => walk_at "mine own"); walk_at "mine room"); intro r' h' tk' F' K' P'; (dsimp only [hearP] at P'); obtain ⟨e', pa'⟩ := P'; subst e'; obtain @⟨es', av', pv', hp', hq', pe', ia', ip'⟩ := PortAt.out pa'; walk_at "mine anew")
  trivial

-- text Make
theorem text_Make : True := by
  w_top off
  trivial

/-- an object made by its class -/
theorem does_make {w : World} {C fI : Addr} {n : Nat} {vs : List Value} {Own : List Addr} {Pre : Heap → Prop} {Made : Addr → Addr → Heap → Prop}
    {name qual : Str} {params : Arguments} {body : List Stmt} {scope : Scope} {dV kV doc pm cdv ct oc : Value} {an od : Option Addr} {osl : Array (Option Value)} {binds : Addr → List (Str × Value)}
    (hup : ∀ h h', KeepT h h' → (∀ y ∈ Own, ∀ o, h.get? y = some o → h'.get? y = some o) → Pre h → Pre h') (hn : 2 ≤ n)
    (hm : makesIn (hd.heap_1 w.params) C = true) (hi : findIn (hd.heap_1 w.params) (.ref C) "__init__" = some (some (.ref fI))) (hf : isFn (hd.heap_1 w.params) (.ref fI) = true)
    (ho : (hd.heap_1 w.params).lookup fI = some ⟨oc, od, .func (fnOf name qual params body scope dV kV doc pm an cdv ct), osl⟩) (hcd : codeIn (hd.heap_1 w.params) cdv qual = true)
    (hbind : ∀ (s : Shared) x, (hd.heap_1 w.params).In s.heap → BindsTo s (fnOf name qual params body scope dV kV doc pm an cdv ct) ⟨.ref x :: vs, []⟩ (binds x)) (hloc : ∀ x, ∀ y ∈ binds x, scope.names.lookup y.1 = some .local)
    (hco : scope.isCoroutine = false) (hgen : scope.isGenerator = false) (hk : scope.kind = .function) (hcell : ∀ x ∈ scope.names, x.2 ≠ .cell)
    (h : ∀ (dp un : Nat) (gd : Option (List Code)) (outer : List Env) (A₀ : Around) (base g : Heap) (L x dx : Addr) (s : Shared) (Q E : Value → Shared → Prop) (mean : ExcName → Option Value) (mg mb : Str → Option Value),
      Below A₀ base outer g → Fr g L s.heap (fun y => (binds x).reverse.lookup y) → (hd.heap_1 w.params).In g → Top hd.view_1 LO mean mg mb g →
      News g L s.heap [(x, instObj C dx), (dx, dictOf [] 0)] → (@LT.lt Nat _ dx x) → (∀ y ∈ Own, NewAt g L s.heap y ∧ (@Ne Nat y x) ∧ (@Ne Nat y dx)) → Pre s.heap → dp + n ≤ recursionLimit + 1 → un + 8 * n + 180 < cLine →
      (∀ h' tk' m', Fr g L h' m' → Since [x, dx] L s.heap h' → Made x dx h' → Q .none { s with heap := h', toks := tk' }) →
      wpAny (model PySem.Challenge.rw_xm0983_01.row.prog w) (ktrTop dp un gd qual scope L fI cdv [] outer) (execs body (envX qual scope L fI cdv []))
        (fun fl s' => Q (match fl with | .ret v => v | _ => .none) s') E s) :
    Does w C n vs Own [] Pre (fun h r h' => ∃ x dx, r = .ref x ∧ Fresh h x ∧ Fresh h dx ∧ Made x dx h') := by
  intro dp un gd cn cs a ccd cl outer A₀ base h₀ L m s Q E mean mg mb B F X T hkc hmut hpre hdp hun hret
  have N0 : News h₀ L s.heap (restOf h₀ L s.heap []) := rest_news
  refine call_cls F X N0 hm hi hf fun x dx h1 F1 N1 l1 l2 => ?_
  have hL : ∀ oL, s.heap.get? L = some oL → ∀ vs k, oL ≠ tupO vs k := fun oL e vs k q => by
    obtain ⟨o, es, ep, e', hd', _⟩ := F.ns
    rw [e] at e'
    cases e'
    rw [q] at hd'
    cases hd'
  have k1 : ∀ a o, s.heap.get? a = some o → a ≠ L → h1.get? a = some o := fun a o e hL => by
    cases q : h₀.get? a with
    | some o' =>
      have := F.keep _ _ q
      rw [e] at this
      cases this
      exact F1.keep _ _ q
    | none => exact (N1 (a, o) (.tail _ (.tail _ (mem_restOf.mpr ⟨e, hL, q, fun z => nomatch z⟩)))).1
  have fr : ∀ y, (∃ o, (y, o) ∈ [(x, instObj C dx), (dx, dictOf [] 0)]) → Fresh s.heap y := fun y hy => by
    obtain ⟨o, hy⟩ := hy
    have hyN := N1 (y, o) (by
      rcases List.mem_cons.mp hy with e | hy
      · rw [e]; exact .head _
      · rw [List.mem_singleton.mp hy]; exact .tail _ (.head _))
    unfold Fresh
    cases q : s.heap.get? y with
    | none => rfl
    | some o' =>
      have hm : (y, o') ∈ restOf h₀ L s.heap [] := mem_restOf.mpr ⟨q, hyN.2.1, hyN.2.2, List.not_mem_nil⟩
      have lt := l1 _ hm
      rcases List.mem_cons.mp hy with e | hy
      · cases e; exact absurd (Nat.lt_trans lt l2) (Nat.lt_irrefl _)
      · cases List.mem_singleton.mp hy; exact absurd lt (Nat.lt_irrefl _)
  have N : News h₀ L h1 (restOf h₀ L h1 []) := rest_news
  obtain ⟨FG, BG, st, lv⟩ := groundX (s := { s with heap := h1 }) (A := (ktrTop dp un gd cn cs L a ccd cl outer).under (.builtin "type.__call__" ⟨.ref C :: vs, []⟩)) (R := InitBack x fun r s' => match r with | .ok (.ret v) => Q v s' | .ok _ => False | .error e => E e s') B F1 N rfl rfl hkc
  have Xs := X.keeps F1.keep
  have hdep : ((ktrTop dp un gd cn cs L a ccd cl outer).under (.builtin "type.__call__" ⟨.ref C :: vs, []⟩)).depth = dp + 1 := rfl
  refine codeAny_call_def (fd := fnOf name qual params body scope dV kV doc pm an cdv ct) (body := body) (binds := binds x) (by rw [hdep]; omega) (Xs _ _ ho) rfl (T.nolimit.keeps F1.keep) (codeRec_of Xs hcd) rfl (hbind _ x Xs) hcell (hloc x) (fun h₂ hns hk₂ => ?_) hco hgen hk
  have hmem : ∀ y o, (y, o) ∈ [(x, instObj C dx), (dx, dictOf [] 0)] → h1.get? y = some o ∧ y ≠ L ∧ h₀.get? y = none := fun y o hy => N1 (y, o) (by
    rcases List.mem_cons.mp hy with e | hy
    · rw [e]; exact .head _
    · rw [List.mem_singleton.mp hy]; exact .tail _ (.head _))
  have key := h (dp + 2) (un + (Code.builtin "type.__call__" ⟨.ref C :: vs, []⟩).cUnits + 3) gd (envX cn cs L a ccd cl :: outer) _ base _ h1.objs.size x dx { s with heap := h₂, toks := s.toks + (binds x).length } (fun v s' => v = .none ∧ Q (.ref x) s')
    (fun e s' => wpAny (model PySem.Challenge.rw_xm0983_01.row.prog w) (((ktrTop dp un gd cn cs L a ccd cl outer).under (.builtin "type.__call__" ⟨.ref C :: vs, []⟩)).deeper (callEnv (fnOf name qual params body scope dV kV doc pm an cdv ct) h1.objs.size fI)) (leaving (callEnv (fnOf name qual params body scope dV kV doc pm an cdv ct) h1.objs.size fI) e) (fun _ s'' => E e s'') (fun e' s'' => E e' s'') s')
    mean mg mb BG ⟨hns, fun b o e => hk₂ b o (of_hideAll _ e), Nat.le_of_eq (hideAll_size _ _)⟩ (X.keeps st) (T.keeps st) ?_ l2 ?_
    (hup s.heap h₂ ⟨fun a vs k e => hk₂ _ _ (k1 a _ e fun q => hL _ (q ▸ e) vs k rfl)⟩ (fun y hy o e => hk₂ _ _ (k1 y o e (hmut y hy).1)) hpre) (by omega) ?_ ?_
  · exact key
  · intro p hp
    obtain ⟨y, o⟩ := p
    obtain ⟨e1, e2, e3⟩ := hmem y o hp
    exact ⟨hk₂ _ _ e1, Nat.ne_of_lt (Heap.lt_size e1), hideAll_none _ (List.mem_map.mpr ⟨(y, o), mem_restOf.mpr ⟨e1, e2, e3, fun q => nomatch q⟩, rfl⟩)⟩
  · intro y hy
    obtain ⟨y1, y2, o, y3⟩ := hmut y hy
    have y4 := k1 _ _ y3 y1
    refine ⟨⟨Nat.ne_of_lt (Heap.lt_size y4), hideAll_none _ (List.mem_map.mpr ⟨(y, o), mem_restOf.mpr ⟨y4, y1, y2, List.not_mem_nil⟩, rfl⟩), o, hk₂ _ _ y4⟩, fun q => ?_, fun q => ?_⟩
    · have f := fr x ⟨_, .head _⟩
      rw [← show y = x from q] at f
      rw [f] at y3
      cases y3
    · have f := fr dx ⟨_, .tail _ (.head _)⟩
      rw [← show y = dx from q] at f
      rw [f] at y3
      cases y3
  · have hu : (Code.builtin "type.__call__" ⟨.ref C :: vs, []⟩).cUnits ≤ 8 := by first | exact (show (3 : Nat) ≤ 8 by omega) | exact (show (2 : Nat) ≤ 8 by omega) | exact (show (1 : Nat) ≤ 8 by omega) | exact (show (0 : Nat) ≤ 8 by omega) | exact (show (4 : Nat) ≤ 8 by omega)
    omega
  · intro h' tk' m' F' kp hmade
    refine lv .none { s with heap := h', toks := tk' } ⟨_, m', [], F', News.nil, fun Fb _ => ⟨rfl, ?_⟩⟩
    refine hret (.ref x) h' tk' Fb ⟨fun a o e hL _ => ?_⟩ ⟨x, dx, rfl, fr x ⟨_, .head _⟩, fr dx ⟨_, .tail _ (.head _)⟩, hmade⟩
    refine kp.get a o (hk₂ _ _ (k1 _ _ e hL)) (fun q => ?_) fun q => ?_
    · have := Heap.lt_size (k1 _ _ e hL); rw [q] at this; exact absurd this (Nat.lt_irrefl _)
    · have f : Fresh s.heap a := fr a (by
        rcases List.mem_cons.mp q with e | q
        · exact ⟨_, by rw [e]; exact .head _⟩
        · rw [List.mem_singleton.mp q]; exact ⟨_, .tail _ (.head _)⟩)
      rw [f] at e
      cases e

-- text C8
theorem text_C8 : True := by
  w_top off
  trivial

/-- how a port is set -/
inductive RowAt (w : World) (h : Heap) (r dr : Addr) (num prio key : Int) (za zs zm : Bool) : Prop where
  | mk {q0 q1 q2 q3 q4 q5 r0 r1 r2 : Tok} : h.get? r = some (instObj 99 dr) → h.get? dr = some (dictOf [⟨PyData.keyHash w.params (Str.ofString "number"), .str (Str.ofString "number") q0, .int num r0⟩, ⟨PyData.keyHash w.params (Str.ofString "priority"), .str (Str.ofString "priority") q1, .int prio r1⟩, ⟨PyData.keyHash w.params (Str.ofString "key"), .str (Str.ofString "key") q2, .int key r2⟩, ⟨PyData.keyHash w.params (Str.ofString "is_active"), .str (Str.ofString "is_active") q3, .bool za⟩, ⟨PyData.keyHash w.params (Str.ofString "is_short"), .str (Str.ofString "is_short") q4, .bool zs⟩, ⟨PyData.keyHash w.params (Str.ofString "may_join"), .str (Str.ofString "may_join") q5, .bool zm⟩] 6) → RowAt w h r dr num prio key za zs zm

set_option maxHeartbeats 2000000 in
theorem row_ok (w : World) (num prio key : Int) (r0 r1 r2 : Tok) (za zs zm : Bool) :
    Does w 99 2 [.int num r0, .int prio r1, .int key r2, .bool za, .bool zs, .bool zm] [] [] (fun h => True) (fun h res h' => ∃ x dx, res = .ref x ∧ Fresh h x ∧ Fresh h dx ∧ RowAt w h' x dx num prio key za zs zm) := by
  have key : model PySem.Challenge.rw_xm0983_01.row.prog w = model PySem.Challenge.rw_xm0983_01.row.prog w → hd.heap_1 w.params = hd.heap_1 w.params →
      Does w 99 2 [.int num r0, .int prio r1, .int key r2, .bool za, .bool zs, .bool zm] [] [] (fun h => True) (fun h res h' => ∃ x dx, res = .ref x ∧ Fresh h x ∧ Fresh h dx ∧ RowAt w h' x dx num prio key za zs zm) := by
    k_fill
    intro _ _
    refine' does_make (fI := 82) (Made := fun x dx h' => RowAt w h' x dx num prio key za zs zm) (binds := fun x => [(Str.ofString "self", Value.ref x), (Str.ofString "number", Value.int num r0), (Str.ofString "priority", Value.int prio r1), (Str.ofString "key", Value.int key r2), (Str.ofString "is_active", Value.bool za), (Str.ofString "is_short", Value.bool zs), (Str.ofString "may_join", Value.bool zm)]) ?up (by decide) ?hm ?hi ?hf ?ho ?hcd ?hb ?hl ?c1 ?c2 ?c3 ?c4 ?_
    case hm => k_is
    case hi => k_is
    case hf => k_is
    case ho => k_is
    case hcd => k_is
    case hb => (intro _ _ _; first | exact BindsTo.of_eq rfl | exact binds_K (by assumption) rfl (by k_is) rfl rfl rfl)
    case hl => exact fun _ => locs rfl
    case c1 => exact rfl
    case c2 => exact rfl
    case c3 => exact rfl
    case c4 => decide
    case up => exact fun h h' k k2 p => p
    intro dp un gd outer A₀ base g L x dx s Q E mean mg mb B F X T NX lx hmut hpre hd hu hret
    have AN : Anc g s.heap := ⟨fun b o e => F.keep b o e⟩
    have AK : Since [x, dx] L s.heap s.heap := Since.refl
    have NT : NoTup s.heap [L, x, dx] := Fr.noTup F (.cons (NX _ (.head _)).1 inst_noTup (.cons (NX _ (.tail _ (.head _))).1 dict_noTup .nil))
    have N : News g L s.heap ((x, instObj 99 dx) :: (dx, dictOf [] 0) :: restOf g L s.heap [x, dx]) := News.add ⟨(NX _ (.head _)).2.1, (NX _ (.head _)).2.2, _, (NX _ (.head _)).1⟩ (NX _ (.head _)).1 (News.add ⟨(NX _ (.tail _ (.head _))).2.1, (NX _ (.tail _ (.head _))).2.2, _, (NX _ (.tail _ (.head _))).1⟩ (NX _ (.tail _ (.head _))).1 rest_news)
    with_reducible show wpAny _ _ _ _ _ _
    k_steps
    all_goals (try dsimp only)
    all_goals exact hret _ _ _ (by k_asm) (by walk_at "mine kept") (RowAt.mk (News.get (by k_asm) (by k_mem)) (News.get (by k_asm) (by k_mem)))
  exact key rfl rfl

set_option maxHeartbeats 2000000 in
theorem pdu_ok (w : World) (ua ub : Addr) (DA DB : Info) :
    Does w 49 2 [.ref ua, .ref ub] [] [] (fun h => InfoAt h ua DA ∧ InfoAt h ub DB) (fun h res h' => ∃ x dx, res = .ref x ∧ Fresh h x ∧ Fresh h dx ∧ PduAt w h' x dx DA DB) := by
  have key : model PySem.Challenge.rw_xm0983_01.row.prog w = model PySem.Challenge.rw_xm0983_01.row.prog w → hd.heap_1 w.params = hd.heap_1 w.params →
      Does w 49 2 [.ref ua, .ref ub] [] [] (fun h => InfoAt h ua DA ∧ InfoAt h ub DB) (fun h res h' => ∃ x dx, res = .ref x ∧ Fresh h x ∧ Fresh h dx ∧ PduAt w h' x dx DA DB) := by
    k_fill
    intro _ _
    refine' does_make (fI := 39) (Made := fun x dx h' => PduAt w h' x dx DA DB) (binds := fun x => [(Str.ofString "self", Value.ref x), (Str.ofString "actor", Value.ref ua), (Str.ofString "partner", Value.ref ub), (Str.ofString "most_delay", Value.int 0 232)]) ?up (by decide) ?hm ?hi ?hf ?ho ?hcd ?hb ?hl ?c1 ?c2 ?c3 ?c4 ?_
    case hm => k_is
    case hi => k_is
    case hf => k_is
    case ho => k_is
    case hcd => k_is
    case hb => (intro _ _ _; first | exact BindsTo.of_eq rfl | exact binds_K (by assumption) rfl (by k_is) rfl rfl rfl)
    case hl => exact fun _ => locs rfl
    case c1 => exact rfl
    case c2 => exact rfl
    case c3 => exact rfl
    case c4 => decide
    case up => exact fun h h' k k2 p => ⟨k.info p.1, k.info p.2⟩
    intro dp un gd outer A₀ base g L x dx s Q E mean mg mb B F X T NX lx hmut hpre hd hu hret
    have AN : Anc g s.heap := ⟨fun b o e => F.keep b o e⟩
    have AK : Since [x, dx] L s.heap s.heap := Since.refl
    obtain ⟨ia, ib⟩ := hpre
    have NT : NoTup s.heap [L, x, dx] := Fr.noTup F (.cons (NX _ (.head _)).1 inst_noTup (.cons (NX _ (.tail _ (.head _))).1 dict_noTup .nil))
    have N : News g L s.heap ((x, instObj 49 dx) :: (dx, dictOf [] 0) :: restOf g L s.heap [x, dx]) := News.add ⟨(NX _ (.head _)).2.1, (NX _ (.head _)).2.2, _, (NX _ (.head _)).1⟩ (NX _ (.head _)).1 (News.add ⟨(NX _ (.tail _ (.head _))).2.1, (NX _ (.tail _ (.head _))).2.2, _, (NX _ (.tail _ (.head _))).1⟩ (NX _ (.tail _ (.head _))).1 rest_news)
    with_reducible show wpAny _ _ _ _ _ _
    k_steps
    all_goals (try dsimp only)
    all_goals exact hret _ _ _ (by k_asm) (by walk_at "mine kept") (PduAt.mk (News.get (by k_asm) (by k_mem)) (News.get (by k_asm) (by k_mem)) (by walk_at "mine info") (by walk_at "mine info"))
  exact key rfl rfl

theorem RowAt.up {w : World} {h h' : Heap} {r dr : Addr} {num prio key : Int} {za zs zm : Bool} (k : ∀ a o, h.get? a = some o → h'.get? a = some o) : RowAt w h r dr num prio key za zs zm → RowAt w h' r dr num prio key za zs zm
  | .mk a b => .mk (k _ _ a) (k _ _ b)
def rowBits (za zs zm : Bool) : Int := (if za then 1 else 0) + (if zs then 2 else 0) + (if zm then 4 else 0)
theorem lines_26 : True := by
  k_with "own mine row" => exact RowAt.mk (News.get (by k_asm) (by k_mem)) (News.get (by k_asm) (by k_mem))
  trivial

set_option maxHeartbeats 2000000 in
theorem port_id_ok (w : World) (r dr : Addr) (num prio key : Int) (za zs zm : Bool) :
    Does w 89 1 [.ref r] [r, dr] [] (fun h => RowAt w h r dr num prio key za zs zm) (fun h r h' => ∃ v, r = .ref v ∧ PairAt h' v prio num) := by
  have key : model PySem.Challenge.rw_xm0983_01.row.prog w = model PySem.Challenge.rw_xm0983_01.row.prog w → hd.heap_1 w.params = hd.heap_1 w.params →
      Does w 89 1 [.ref r] [r, dr] [] (fun h => RowAt w h r dr num prio key za zs zm) (fun h r h' => ∃ v, r = .ref v ∧ PairAt h' v prio num) := by
    k_fill
    intro _ _
    refine' does_of (binds := [(Str.ofString "self", Value.ref r)]) ?up ?dn (by decide) ?ho ?hcd ?hb ?hl ?c1 ?c2 ?c3 ?c4 ?_
    case ho => k_is
    case hcd => k_is
    case hb => walk_at "mine hb"
    case hl => exact locs rfl
    case c1 => exact rfl
    case c2 => exact rfl
    case c3 => exact rfl
    case c4 => decide
    case up => exact fun h h' k p => p.up k
    case dn => exact fun h h' r h'' k p => p
    intro dp un gd outer A₀ base g L s Q E mean mg mb B F X T hmut hpre hd hu hret
    have AN : Anc g s.heap := ⟨fun b o e => F.keep b o e⟩
    have AK : Since [r, dr] L s.heap s.heap := Since.refl
    obtain @⟨q0, q1, q2, q3, q4, q5, r0, r1, r2, hr, hdr⟩ := hpre
    have hne := neN (at_ne hr hdr (dne rfl))
    have NT : NoTup s.heap [L, r, dr] := Fr.noTup F (.cons hr inst_noTup (.cons hdr dict_noTup .nil))
    have N : News g L s.heap ((r, instObj 99 dr) :: (dr, dictOf [⟨PyData.keyHash w.params (Str.ofString "number"), .str (Str.ofString "number") q0, .int num r0⟩, ⟨PyData.keyHash w.params (Str.ofString "priority"), .str (Str.ofString "priority") q1, .int prio r1⟩, ⟨PyData.keyHash w.params (Str.ofString "key"), .str (Str.ofString "key") q2, .int key r2⟩, ⟨PyData.keyHash w.params (Str.ofString "is_active"), .str (Str.ofString "is_active") q3, .bool za⟩, ⟨PyData.keyHash w.params (Str.ofString "is_short"), .str (Str.ofString "is_short") q4, .bool zs⟩, ⟨PyData.keyHash w.params (Str.ofString "may_join"), .str (Str.ofString "may_join") q5, .bool zm⟩] 6) :: restOf g L s.heap [r, dr]) := News.add (hmut r (by k_mem)) hr (News.add (hmut dr (by k_mem)) hdr rest_news)
    with_reducible show wpAny _ _ _ _ _ _
    k_steps
    all_goals (try dsimp only)
    all_goals refine hret _ _ _ _ (by k_asm) (since_cons hdr (News.get (by k_asm) (by k_mem)) (since_cons hr (News.get (by k_asm) (by k_mem)) (by walk_at "mine kept"))) ?_
    all_goals exact ⟨_, rfl, by walk_at "mine pair"⟩
  exact key rfl rfl

theorem lines_27 : True := by
  k_with "own call ref" => (k_here; (with_reducible show wpAny _ _ (call (Value.ref 89) _) _ _ _); k_dflt (refine' Does.use (port_id_ok _ _ _ _ _ _ _ _ _) ?kB ?kF ?kX ?kT ?kk ?km_84 ?kp_84 ?kd ?ku ?_; walk_at "mine use"; (case kp_84 => walk_at "mine row"); (case km_84 => walk_at "mine own"); walk_at "mine room"); intro r' h' tk' F' K' P'; (try dsimp only at P'); obtain ⟨v', e', t'⟩ := P'; subst e'; walk_at "mine anew")
  trivial

set_option maxHeartbeats 2000000 in
theorem row_bits_ok (w : World) (r dr : Addr) (num prio key : Int) (za zs zm : Bool) :
    Does w 96 1 [.ref r] [r, dr] [] (fun h => RowAt w h r dr num prio key za zs zm) (fun h r h' => ∃ t, r = .int (rowBits za zs zm) t) := by
  have key : model PySem.Challenge.rw_xm0983_01.row.prog w = model PySem.Challenge.rw_xm0983_01.row.prog w → hd.heap_1 w.params = hd.heap_1 w.params →
      Does w 96 1 [.ref r] [r, dr] [] (fun h => RowAt w h r dr num prio key za zs zm) (fun h r h' => ∃ t, r = .int (rowBits za zs zm) t) := by
    k_fill
    intro _ _
    refine' does_of (binds := [(Str.ofString "self", Value.ref r)]) ?up ?dn (by decide) ?ho ?hcd ?hb ?hl ?c1 ?c2 ?c3 ?c4 ?_
    case ho => k_is
    case hcd => k_is
    case hb => walk_at "mine hb"
    case hl => exact locs rfl
    case c1 => exact rfl
    case c2 => exact rfl
    case c3 => exact rfl
    case c4 => decide
    case up => exact fun h h' k p => p.up k
    case dn => exact fun h h' r h'' k p => p
    intro dp un gd outer A₀ base g L s Q E mean mg mb B F X T hmut hpre hd hu hret
    have AN : Anc g s.heap := ⟨fun b o e => F.keep b o e⟩
    have AK : Since [r, dr] L s.heap s.heap := Since.refl
    obtain @⟨q0, q1, q2, q3, q4, q5, r0, r1, r2, hr, hdr⟩ := hpre
    have hne := neN (at_ne hr hdr (dne rfl))
    have NT : NoTup s.heap [L, r, dr] := Fr.noTup F (.cons hr inst_noTup (.cons hdr dict_noTup .nil))
    have N : News g L s.heap ((r, instObj 99 dr) :: (dr, dictOf [⟨PyData.keyHash w.params (Str.ofString "number"), .str (Str.ofString "number") q0, .int num r0⟩, ⟨PyData.keyHash w.params (Str.ofString "priority"), .str (Str.ofString "priority") q1, .int prio r1⟩, ⟨PyData.keyHash w.params (Str.ofString "key"), .str (Str.ofString "key") q2, .int key r2⟩, ⟨PyData.keyHash w.params (Str.ofString "is_active"), .str (Str.ofString "is_active") q3, .bool za⟩, ⟨PyData.keyHash w.params (Str.ofString "is_short"), .str (Str.ofString "is_short") q4, .bool zs⟩, ⟨PyData.keyHash w.params (Str.ofString "may_join"), .str (Str.ofString "may_join") q5, .bool zm⟩] 6) :: restOf g L s.heap [r, dr]) := News.add (hmut r (by k_mem)) hr (News.add (hmut dr (by k_mem)) hdr rest_news)
    with_reducible show wpAny _ _ _ _ _ _
    cases za <;> cases zs <;> cases zm <;> k_steps
    all_goals (try dsimp only)
    all_goals refine hret _ _ _ _ (by k_asm) (since_cons hdr (News.get (by k_asm) (by k_mem)) (since_cons hr (News.get (by k_asm) (by k_mem)) (by walk_at "mine kept"))) ?_
    all_goals exact ⟨_, rfl⟩
  exact key rfl rfl

theorem lines_28 : True := by
  k_with "own call ref" => (k_here; (with_reducible show wpAny _ _ (call (Value.ref 96) _) _ _ _); k_dflt (refine' Does.use (row_bits_ok _ _ _ _ _ _ _ _ _) ?kB ?kF ?kX ?kT ?kk ?km_85 ?kp_85 ?kd ?ku ?_; walk_at "mine use"; (case kp_85 => walk_at "mine row"); (case km_85 => walk_at "mine own"); walk_at "mine room"); intro r' h' tk' F' K' P'; walk_at "mine after"; (try dsimp only at P'); obtain ⟨t', e'⟩ := P'; subst e')
  trivial

set_option maxHeartbeats 4000000 in
theorem port_ok (w : World) (sv : Addr) (a b : Int) (r dr : Addr) (num prio key : Int) (za zs zm : Bool) :
    Does w 190 4 [.ref sv, .ref r] [r, dr] [] (fun h => PairAt h sv a b ∧ RowAt w h r dr num prio key za zs zm) (fun h res h' => ∃ x dx, res = .ref x ∧ Fresh h x ∧ Fresh h dx ∧ PortAt w h' x dx ⟨r, ⟨a, b, key, prio, num, Builtin.bitOr (rowBits za zs zm) 64⟩, NB, Str.ofString "disabled", 0, Str.ofString "unselected", 0, false⟩) := by
  have key : model PySem.Challenge.rw_xm0983_01.row.prog w = model PySem.Challenge.rw_xm0983_01.row.prog w → hd.heap_1 w.params = hd.heap_1 w.params →
      Does w 190 4 [.ref sv, .ref r] [r, dr] [] (fun h => PairAt h sv a b ∧ RowAt w h r dr num prio key za zs zm) (fun h res h' => ∃ x dx, res = .ref x ∧ Fresh h x ∧ Fresh h dx ∧ PortAt w h' x dx ⟨r, ⟨a, b, key, prio, num, Builtin.bitOr (rowBits za zs zm) 64⟩, NB, Str.ofString "disabled", 0, Str.ofString "unselected", 0, false⟩) := by
    k_fill
    intro _ _
    refine' does_make (fI := 117) (Made := fun x dx h' => PortAt w h' x dx ⟨r, ⟨a, b, key, prio, num, Builtin.bitOr (rowBits za zs zm) 64⟩, NB, Str.ofString "disabled", 0, Str.ofString "unselected", 0, false⟩) (binds := fun x => [(Str.ofString "self", Value.ref x), (Str.ofString "system", Value.ref sv), (Str.ofString "row", Value.ref r)]) ?up (by decide) ?hm ?hi ?hf ?ho ?hcd ?hb ?hl ?c1 ?c2 ?c3 ?c4 ?_
    case hm => k_is
    case hi => k_is
    case hf => k_is
    case ho => k_is
    case hcd => k_is
    case hb => (intro _ _ _; first | exact BindsTo.of_eq rfl | exact binds_K (by assumption) rfl (by k_is) rfl rfl rfl)
    case hl => exact fun _ => locs rfl
    case c1 => exact rfl
    case c2 => exact rfl
    case c3 => exact rfl
    case c4 => decide
    case up => exact fun h h' k k2 p => ⟨k.pair p.1, by obtain ⟨a, b⟩ := p.2; exact .mk (k2 _ (by simp) _ a) (k2 _ (by simp) _ b)⟩
    intro dp un gd outer A₀ base g L x dx s Q E mean mg mb B F X T NX lx hmut hpre hd hu hret
    have AN : Anc g s.heap := ⟨fun b o e => F.keep b o e⟩
    have AK : Since [r, dr, x, dx] L s.heap s.heap := Since.refl
    obtain ⟨isv, hrow⟩ := hpre
    obtain @⟨q0, q1, q2, q3, q4, q5, r0, r1, r2, hr, hdr⟩ := hrow
    have nr := (hmut r (.head _))
    have nd := (hmut dr (.tail _ (.head _)))
    have hne := neN (at_ne hr hdr (dne rfl))
    have h1 := neN nr.2.1
    have h2 := neN nr.2.2
    have h3 := neN nd.2.1
    have h4 := neN nd.2.2
    have nb : InfoAt s.heap 24 NB := InfoAt.mk 22 23 214 218 0 (F.keep _ _ (X _ _ (by k_is))) (.mk 212 213 0 (F.keep _ _ (X _ _ (by k_is)))) (.mk 215 216 0 (F.keep _ _ (X _ _ (by k_is))))
    have NT : NoTup s.heap [L, r, dr, x, dx] := Fr.noTup F (.cons hr inst_noTup (.cons hdr dict_noTup (.cons (NX _ (.head _)).1 inst_noTup (.cons (NX _ (.tail _ (.head _))).1 dict_noTup .nil))))
    have N : News g L s.heap ((x, instObj 190 dx) :: (dx, dictOf [] 0) :: (r, instObj 99 dr) :: (dr, dictOf [⟨PyData.keyHash w.params (Str.ofString "number"), .str (Str.ofString "number") q0, .int num r0⟩, ⟨PyData.keyHash w.params (Str.ofString "priority"), .str (Str.ofString "priority") q1, .int prio r1⟩, ⟨PyData.keyHash w.params (Str.ofString "key"), .str (Str.ofString "key") q2, .int key r2⟩, ⟨PyData.keyHash w.params (Str.ofString "is_active"), .str (Str.ofString "is_active") q3, .bool za⟩, ⟨PyData.keyHash w.params (Str.ofString "is_short"), .str (Str.ofString "is_short") q4, .bool zs⟩, ⟨PyData.keyHash w.params (Str.ofString "may_join"), .str (Str.ofString "may_join") q5, .bool zm⟩] 6) :: restOf g L s.heap [r, dr, x, dx]) := News.add ⟨(NX _ (.head _)).2.1, (NX _ (.head _)).2.2, _, (NX _ (.head _)).1⟩ (NX _ (.head _)).1 (News.add ⟨(NX _ (.tail _ (.head _))).2.1, (NX _ (.tail _ (.head _))).2.2, _, (NX _ (.tail _ (.head _))).1⟩ (NX _ (.tail _ (.head _))).1 (News.add nr.1 hr (News.add nd.1 hdr rest_news)))
    with_reducible show wpAny _ _ _ _ _ _
    k_steps
    all_goals (try dsimp only)
    all_goals exact hret _ _ _ (by k_asm) (since_cons hdr (News.get (by k_asm) (by k_mem)) (since_cons hr (News.get (by k_asm) (by k_mem)) (by walk_at "mine kept"))) (PortAt.mk (News.get (by k_asm) (by k_mem)) (News.get (by k_asm) (by k_mem)) (.mk rfl) (by walk_at "mine newinfo") (by walk_at "mine info"))
  exact key rfl rfl

-- text C4
theorem text_C4 : True := by
  w_top off
  trivial

/-- the draws' source -/
inductive SrcAt (h : Heap) (src : Addr) : Prop where
  | mk {n0 n1 : Int} {u0 u1 : Tok} {c : Nat} : h.get? src = some (listOf #[.int n0 u0, .int n1 u1] c) → 0 ≤ n0 → 0 ≤ n1 → n1 < 2147483647 → SrcAt h src
theorem SrcAt.up {h h' : Heap} {src : Addr} (k : ∀ a o, h.get? a = some o → h'.get? a = some o) : SrcAt h src → SrcAt h' src
  | .mk a b c d => .mk (k _ _ a) b c d
section
variable {prog : Program} {w : World} {A : Around} {E : Value → Shared → Prop} {s : Shared} {h₀ : Heap} {L src : Addr} {m : Str → Option Value} {news news' : List (Addr × Obj)} {a b v : Value} {c : Nat} {t u : Tok} {value slice : PySem.Expr}
theorem src_get0 {Q : Value → Shared → Prop} (N : News h₀ L s.heap news) (hm : (src, listOf #[a, b] c) ∈ news) (h : Q a s)
    (hs : subscripted slice false (.ref src) (.int 0 u) = operate [.ref src, .int 0 u] (getItem (.ref src) (.int 0 u))) : wpAny (model prog w) A (subscriptTail value slice (.ref src) (.int 0 u)) Q E s :=
  have hl : s.heap.IsList src #[a, b] := PySem.IsL.isList (n := c) (N _ hm).1
  tail_any hl.typeIs slot_list_getitem.lookup (wpAny_getItem_list hl (by decide) (by decide) (x := a) rfl h) hs
theorem src_get1 {Q : Value → Shared → Prop} (N : News h₀ L s.heap news) (hm : (src, listOf #[a, b] c) ∈ news) (h : Q b s)
    (hs : subscripted slice false (.ref src) (.int 1 u) = operate [.ref src, .int 1 u] (getItem (.ref src) (.int 1 u))) : wpAny (model prog w) A (subscriptTail value slice (.ref src) (.int 1 u)) Q E s :=
  have hl : s.heap.IsList src #[a, b] := PySem.IsL.isList (n := c) (N _ hm).1
  tail_any hl.typeIs slot_list_getitem.lookup (wpAny_getItem_list hl (by decide) (by decide) (x := b) rfl h) hs
theorem src_set0 {Q : Unit → Shared → Prop} (F : Fr h₀ L s.heap m) (N : News h₀ L s.heap news) (U : Upd src (listOf #[a, b] c) (listOf #[v, b] c) news news')
    (h : ∀ h', Fr h₀ L h' m → News h₀ L h' news' → Q () { s with heap := h' }) : wpAny (model prog w) A (setItem (.ref src) (.int 0 t) v) Q E s := by
  obtain ⟨pre, post, rfl, rfl, x, y⟩ := U.split
  have z := N (src, listOf #[a, b] c) (List.mem_append.mpr (.inr (.head _)))
  exact ki_setAt z.1 (by decide) (by decide) (by simp) (h _ (F.change (Heap.SameBut.update ..) z.2.1 z.2.2) (ki_turn _ N x y rfl rfl))
theorem src_set1 {Q : Unit → Shared → Prop} (F : Fr h₀ L s.heap m) (N : News h₀ L s.heap news) (U : Upd src (listOf #[a, b] c) (listOf #[a, v] c) news news')
    (h : ∀ h', Fr h₀ L h' m → News h₀ L h' news' → Q () { s with heap := h' }) : wpAny (model prog w) A (setItem (.ref src) (.int 1 t) v) Q E s := by
  obtain ⟨pre, post, rfl, rfl, x, y⟩ := U.split
  have z := N (src, listOf #[a, b] c) (List.mem_append.mpr (.inr (.head _)))
  exact ki_setAt z.1 (by decide) (by decide) (by simp) (h _ (F.change (Heap.SameBut.update ..) z.2.1 z.2.2) (ki_turn _ N x y rfl rfl))
end
def allB : List Int := [1, 2, 4, 8, 16, 32, 64, 128]
theorem allB_item {prog : Program} {w : World} {A : Around} {E : Value → Shared → Prop} {s : Shared} {Q : Value → Shared → Prop} {d : Int} {u a0 a1 a2 a3 a4 a5 a6 a7 : Tok} {n : Nat} {value slice : PySem.Expr} {v : Addr}
    (q : s.heap.get? v = some (tupO [.int 1 a0, .int 2 a1, .int 4 a2, .int 8 a3, .int 16 a4, .int 32 a5, .int 64 a6, .int 128 a7] n)) (h0 : 0 ≤ d) (h1 : d < 8) (h : ∀ b t, b ∈ allB → Q (.int b t) s)
    (hs : subscripted slice false (.ref v) (.int d u) = operate [.ref v, .int d u] (getItem (.ref v) (.int d u))) : wpAny (model prog w) A (subscriptTail value slice (.ref v) (.int d u)) Q E s := by
  have hd : d = 0 ∨ d = 1 ∨ d = 2 ∨ d = 3 ∨ d = 4 ∨ d = 5 ∨ d = 6 ∨ d = 7 := by omega
  rcases hd with rfl | rfl | rfl | rfl | rfl | rfl | rfl | rfl
  · exact item_tupleT (tup_isTup q) (by decide) (by decide) (j := 0) rfl rfl (h _ _ (by decide)) hs
  · exact item_tupleT (tup_isTup q) (by decide) (by decide) (j := 1) rfl rfl (h _ _ (by decide)) hs
  · exact item_tupleT (tup_isTup q) (by decide) (by decide) (j := 2) rfl rfl (h _ _ (by decide)) hs
  · exact item_tupleT (tup_isTup q) (by decide) (by decide) (j := 3) rfl rfl (h _ _ (by decide)) hs
  · exact item_tupleT (tup_isTup q) (by decide) (by decide) (j := 4) rfl rfl (h _ _ (by decide)) hs
  · exact item_tupleT (tup_isTup q) (by decide) (by decide) (j := 5) rfl rfl (h _ _ (by decide)) hs
  · exact item_tupleT (tup_isTup q) (by decide) (by decide) (j := 6) rfl rfl (h _ _ (by decide)) hs
  · exact item_tupleT (tup_isTup q) (by decide) (by decide) (j := 7) rfl rfl (h _ _ (by decide)) hs

theorem lines_29 : True := by
  k_with "own subscriptTail Name Constant ref int" => (k_here; (with_reducible show wpAny _ _ (subscriptTail _ _ (Value.ref _) (Value.int 0 _)) _ _ _); k_dflt (refine' src_get0 ?N_86 ?m_86 ?_ ?s_86; (case N_86 => k_asm); (case m_86 => k_mem); (case s_86 => walk_at "mine hs")))
  k_with "own subscriptTail Name Constant ref int" => (k_here; (with_reducible show wpAny _ _ (subscriptTail _ _ (Value.ref _) (Value.int 1 _)) _ _ _); k_dflt (refine' src_get1 ?N_87 ?m_87 ?_ ?s_87; (case N_87 => k_asm); (case m_87 => k_mem); (case s_87 => walk_at "mine hs")))
  k_with "own setItem ref int" => (k_here; (with_reducible show wpAny _ _ (setItem (Value.ref _) (Value.int 0 _) _) _ _ _); k_dflt (refine' src_set0 ?F_88 ?N_88 ?U_88 ?_; (case F_88 => k_asm); (case N_88 => k_asm); (case U_88 => k_upd); k_whole); intro h' F' N'; (try k_sweep))
  k_with "own setItem ref int" => (k_here; (with_reducible show wpAny _ _ (setItem (Value.ref _) (Value.int 1 _) _) _ _ _); k_dflt (refine' src_set1 ?F_89 ?N_89 ?U_89 ?_; (case F_89 => k_asm); (case N_89 => k_asm); (case U_89 => k_upd); k_whole); intro h' F' N'; (try k_sweep))
  trivial

section
variable {prog : Program} {w : World} {A : Around} {E : Value → Shared → Prop} {s : Shared} {a b : Int} {t u : Tok} {Q : Value → Shared → Prop}
theorem mod_some (hb : 0 < b) (h : ∀ r t', 0 ≤ r → r < b → Q (.int r t') { s with toks := s.toks + 1 }) : wpAny (model prog w) A (binaryOp .Mod (.int a t) (.int b u)) Q E s :=
  mod_int' (by omega) (h _ _ (Int.fmod_nonneg_of_pos _ hb) (Int.fmod_lt_of_pos _ hb))
theorem div_some (hb : 0 < b) (hb' : b < 1073741824) (ha : 0 ≤ a) (h : ∀ r t', 0 ≤ r → Q (.int r t') { s with toks := s.toks + 1 }) : wpAny (model prog w) A (binaryOp .FloorDiv (.int a t) (.int b u)) Q E s :=
  floordiv_int (by omega) (h _ _ (Int.fdiv_nonneg ha (by omega))) (Or.inl (PyProof.noPylong_small (by omega)))
theorem mul_some (h1 : 0 ≤ a) (h2 : a < 2147483647) (h : Q (.int (a * b) s.toks) { s with toks := s.toks + 1 }) : wpAny (model prog w) A (binaryOp .Mult (.int a t) (.int b u)) Q E s :=
  PyProof.Rows.mul_int h (IntMulOk.of_left (intBits_le_64 (by omega) (by omega)))
end
theorem lines_30 : True := by
  k_with "own mine src" => exact SrcAt.mk (News.get (by k_asm) (by k_mem)) (by assumption) (by assumption) (by assumption)
  trivial

section
local macro_rules | `(tactic| walk_at "binaryOp FloorDiv int int") => `(tactic| (k_here; (with_reducible refine div_some ?hb ?hc ?hd ?_); (case hb => omega); (case hc => omega); (case hd => omega); intro _ _ _))
local macro_rules | `(tactic| walk_at "binaryOp Mod int int") => `(tactic| (k_here; (with_reducible refine mod_some ?hb ?_); (case hb => omega); intro _ _ _ _))
local macro_rules | `(tactic| walk_at "binaryOp Mult int int") => `(tactic| (k_here; (with_reducible refine mul_some ?hb ?hc ?_); (case hb => omega); (case hc => omega)))
set_option maxHeartbeats 2000000 in
theorem take_ok (w : World) (src : Addr) (top : Int) (t : Tok) :
    Does w 250 1 [.ref src, .int top t] [src] [src] (fun h => SrcAt h src ∧ (0 < top ∧ top ≤ 256)) (fun h r h' => ∃ d t', r = .int d t' ∧ 0 ≤ d ∧ d < top ∧ SrcAt h' src) := by
  have key : model PySem.Challenge.rw_xm0983_01.row.prog w = model PySem.Challenge.rw_xm0983_01.row.prog w → hd.heap_1 w.params = hd.heap_1 w.params →
      Does w 250 1 [.ref src, .int top t] [src] [src] (fun h => SrcAt h src ∧ (0 < top ∧ top ≤ 256)) (fun h r h' => ∃ d t', r = .int d t' ∧ 0 ≤ d ∧ d < top ∧ SrcAt h' src) := by
    k_fill
    intro _ _
    refine' does_of (binds := [(Str.ofString "source", Value.ref src), (Str.ofString "top", Value.int top t)]) ?up ?dn (by decide) ?ho ?hcd ?hb ?hl ?c1 ?c2 ?c3 ?c4 ?_
    case ho => k_is
    case hcd => k_is
    case hb => walk_at "mine hb"
    case hl => exact locs rfl
    case c1 => exact rfl
    case c2 => exact rfl
    case c3 => exact rfl
    case c4 => decide
    case up => exact fun h h' k p => ⟨p.1.up k, p.2⟩
    case dn => exact fun h h' r h'' k p => p
    intro dp un gd outer A₀ base g L s Q E mean mg mb B F X T hmut hpre hd hu hret
    have AN : Anc g s.heap := ⟨fun b o e => F.keep b o e⟩
    have AK : Since [src] L s.heap s.heap := Since.refl
    obtain ⟨hsrc, htop⟩ := hpre
    obtain @⟨n0, n1, u0, u1, c, hs, g0, g1, g2⟩ := hsrc
    have NT : NoTup s.heap [L, src] := Fr.noTup F (.cons hs list_noTup .nil)
    have N : News g L s.heap ((src, listOf #[.int n0 u0, .int n1 u1] c) :: restOf g L s.heap [src]) := News.add (hmut src (by k_mem)) hs rest_news
    with_reducible show wpAny _ _ _ _ _ _
    obtain ⟨htop, htop2⟩ := htop
    k_steps
    all_goals (try dsimp only)
    all_goals refine hret _ _ _ _ (by k_asm) (by walk_at "mine kept") ?_
    all_goals exact ⟨_, _, rfl, by assumption, by assumption, by walk_at "mine src"⟩
  exact key rfl rfl

end
local macro_rules | `(tactic| walk_at "dummy4") => `(tactic| skip)
local macro_rules | `(tactic| walk_at "dummy5") => `(tactic| skip)
local macro_rules | `(tactic| walk_at "dummy6") => `(tactic| skip)
local macro_rules | `(tactic| walk_at "dummy7") => `(tactic| skip)
theorem lines_31 : True := by
  k_with "own call ref" => (k_here; (with_reducible show wpAny _ _ (call (Value.ref 250) _) _ _ _); k_dflt (refine' Does.use (take_ok _ _ _ _) ?kB ?kF ?kX ?kT ?kk ?km_91 ?kp_91 ?kd ?ku ?_; walk_at "mine use"; (case kp_91 => exact ⟨by walk_at "mine src", by omega⟩); (case km_91 => walk_at "mine own"); walk_at "mine room"); intro r' h' tk' F' K' P'; (try dsimp only at P'); obtain ⟨d', t', e', g0', g1', s'⟩ := P'; subst e'; cases s'; walk_at "mine after")
  trivial

-- text Cell
theorem text_Cell : True := by
  w_top off
  trivial

/-- the way into a def some of whose names are kept for a block within -/
theorem does_ofC {w : World} {f : Addr} {n : Nat} {vs : List Value} {Own Mut : List Addr} {Pre : Heap → Prop} {Post : Heap → Value → Heap → Prop}
    {name qual : Str} {params : Arguments} {body : List Stmt} {scope : Scope} {dV kV doc pm cdv ct oc : Value} {an od : Option Addr} {osl : Array (Option Value)} {binds : List (Str × Value)}
    (hup : Up Pre) (hdn : Down Post) (hn : 1 ≤ n)
    (ho : (hd.heap_1 w.params).lookup f = some ⟨oc, od, .func (fnOf name qual params body scope dV kV doc pm an cdv ct), osl⟩) (hcd : codeIn (hd.heap_1 w.params) cdv qual = true)
    (hbind : ∀ s : Shared, (hd.heap_1 w.params).In s.heap → BindsTo s (fnOf name qual params body scope dV kV doc pm an cdv ct) ⟨vs, []⟩ binds)
    (hkind : (binds.all fun y => scope.names.lookup y.1 == some .local || scope.names.lookup y.1 == some .cell) = true)
    (hco : scope.isCoroutine = false) (hgen : scope.isGenerator = false) (hk : scope.kind = .function) (hnd : ((cellsFrom 0 scope.names []).map (·.1)).Nodup)
    (h : ∀ (dp un : Nat) (gd : Option (List Code)) (outer : List Env) (A₀ : Around) (base g : Heap) (L : Addr) (s : Shared) (Q E : Value → Shared → Prop) (mean : ExcName → Option Value) (mg mb : Str → Option Value) (cells : List (Addr × Obj)),
      Below A₀ base outer g → Fr g L s.heap (bindL (envOfC qual scope L f cdv).kindOf binds fun _ => none) → (hd.heap_1 w.params).In g → Top hd.view_1 LO mean mg mb g →
      News g L s.heap cells → CellsAre (bindC (envOfC qual scope L f cdv).kindOf binds fun _ => none) (cellsFrom (L + 1) scope.names []) cells → (∀ p ∈ cells, ∀ x ∈ Own, p.1 ≠ x) →
      (∀ x ∈ Own, NewAt g L s.heap x) → Pre s.heap → dp + n ≤ recursionLimit → un + 8 * n + 192 < cLine →
      (∀ r h' tk' m', Fr g L h' m' → (∀ a o, s.heap.get? a = some o → a ≠ L → (∀ p ∈ cells, p.1 ≠ a) → a ∉ Mut → h'.get? a = some o) → Post s.heap r h' → Q r { s with heap := h', toks := tk' }) →
      wpAny (model PySem.Challenge.rw_xm0983_01.row.prog w) (ktrTop dp un gd qual scope L f cdv (cellsFrom (L + 1) scope.names []) outer) (execs body (envX qual scope L f cdv (cellsFrom (L + 1) scope.names [])))
        (fun fl s' => Q (match fl with | .ret v => v | _ => .none) s') E s) :
    Does w f n vs Own Mut Pre Post := by
  intro dp un gd cn cs a ccd cl outer A₀ base h₀ L m s Q E mean mg mb B F X T hkc hmut hpre hdp hun hret
  refine wpAny_call ?_
  have N : News h₀ L s.heap (restOf h₀ L s.heap []) := rest_news
  obtain ⟨FG, BG, st, lv⟩ := groundX (A := ktrTop dp un gd cn cs L a ccd cl outer) (R := fun r s' => match r with | .ok (.ret v) => Q v s' | .ok _ => False | .error e => E e s') B F N rfl rfl hkc
  have Xs := X.keeps F.keep
  refine codeAny_call_function (by show dp < _; omega) (Xs _ _ ho) rfl hco hgen rfl (codeRec_of Xs hcd) (hbind s Xs _ _ _ _ ?_)
  refine wpAny_newFunctionEnv_cells hk (kindsX hkind _) fun env' he s' x => ?_
  subst he
  refine ⟨(T.nolimit.keeps F.keep).keeps x.toInCall.keep, codeAny_func ?_⟩
  obtain ⟨h₁, tk, rfl, _⟩ := x.done
  have hk₁ := x.toInCall.keep
  obtain ⟨cells, NC, Y⟩ := Cl.news (h₀ := s.heap) (Nat.le_refl _) fun n c hm => ⟨x.cell n c (lookup_of_mem_nodup (cellsFrom_names scope.names 0 (s.heap.objs.size + 1) [] [] rfl ▸ hnd) hm), x.above n c hm⟩
  have NC' : News (hideAll s.heap ((restOf h₀ L s.heap []).map (·.1))) s.heap.objs.size h₁ cells := fun p hp => by
    refine ⟨(NC p hp).1, (NC p hp).2.1, ?_⟩
    cases q : (hideAll s.heap ((restOf h₀ L s.heap []).map (·.1))).get? p.1 with
    | none => rfl
    | some o => have := of_hideAll _ q; rw [(NC p hp).2.2] at this; cases this
  have key := h (dp + 1) (un + 3) gd (envX cn cs L a ccd cl :: outer) _ base _ s.heap.objs.size { s with heap := h₁, toks := tk } Q
    (fun e s' => wpAny (model PySem.Challenge.rw_xm0983_01.row.prog w) ((ktrTop dp un gd cn cs L a ccd cl outer).deeper (envOfC qual scope s.heap.objs.size f cdv)) (leaving (envOfC qual scope s.heap.objs.size f cdv) e) (fun _ s'' => E e s'') (fun e' s'' => E e' s'') s')
    mean mg mb cells BG ⟨x.toInCall.ns, fun b o e => hk₁ b o (of_hideAll _ e), Nat.le_of_eq (hideAll_size _ _)⟩ (X.keeps st) (T.keeps st) NC' Y ?_ ?_ (hup _ _ hk₁ hpre) (by omega) (by omega) ?_
  · exact key
  · intro p hp x hx e
    obtain ⟨_, _, o, x3⟩ := hmut x hx
    have := (NC p hp).2.2
    rw [e, x3] at this
    cases this
  · intro x hx
    obtain ⟨x1, x2, o, x3⟩ := hmut x hx
    refine ⟨fun e => ?_, ?_, o, hk₁ _ _ x3⟩
    · have := Heap.lt_size x3; rw [e] at this; exact absurd this (Nat.lt_irrefl _)
    · exact hideAll_none _ (List.mem_map.mpr ⟨(x, o), mem_restOf.mpr ⟨x3, x1, x2, fun q => nomatch q⟩, rfl⟩)
  · intro r h' tk' m' F' kp hpost
    refine lv r { s with heap := h', toks := tk' } ⟨_, m', [], F', News.nil, fun Fb _ => ?_⟩
    refine hret r h' tk' Fb ⟨fun a o e _ hx => ?_⟩ (hdn _ _ _ _ hk₁ hpost)
    refine kp a o (hk₁ _ _ e) (fun q => by have := Heap.lt_size e; rw [q] at this; exact absurd this (Nat.lt_irrefl _)) (fun p hp q => ?_) hx
    have := (NC p hp).2.2
    rw [q, e] at this
    cases this

section
open LCg LCt
variable {prog : Program} {w : World} {A : Around} {E : Value → Shared → Prop} {s : Shared} {h₀ : Heap} {L : Addr} {m : Str → Option Value} {env : Env}
/-- a mark: the walk stands still here -/
def Still (P : Prop) : Prop := P
/-- a block with a test over a tuple of the ground's -/
theorem ListComp_tup {ct elt iter : Expr} {x : Str} {px : Pos} {scope : Scope} {cl : List (Str × Addr)} {pos : Pos} {Q : Value → Shared → Prop} (_F₀ : Fr h₀ L s.heap m)
    (hclos : closureFor scope env = pure cl) (hcell : ∀ y ∈ scope.names, y.2 ≠ .cell) (hkind : scope.kind = .function)
    (hnames : ∀ y ∈ scope.names, y.2 = .local → scope.names.lookup y.1 = some .local) (hx : scope.names.lookup x = some .local)
    (h : wpAny (model prog w) A (eval iter env) (fun xv s₁ => Still (∃ ax its news, xv = .ref ax ∧ A.handled = none ∧ Fr h₀ L s₁.heap m ∧ News h₀ L s₁.heap news ∧ h₀.IsTuple ax its ∧ its.size ≤ sizeLine ∧
      ∀ s₂ : Shared, (∃ h, s₂ = { s₁ with heap := h }) → CompRestT prog w A h₀ L m env ct elt x scope cl s₂ (fun _ => True) (fun i v => its[i]? = some v) (FinE h₀ L m s₂ Q) its.size 0 [] news)) E s)
    (hs : ∀ x, foldedSetIterable iter env x = pure x := by intro _; rfl) :
    wpAny (model prog w) A (eval (.ListComp elt [⟨.Name x px, iter, [ct], 0⟩] scope pos) env) Q E s := by
  rw [eval_ListComp]
  refine wpAny_comprehension_free (use := none) rfl hs hclos hkind hnames (wpAny_mono h (fun xv s₁ h₁ => ?_) fun _ _ e => e)
  obtain ⟨ax, its, news, rfl, hh, F, N, S, hsz, R⟩ := h₁
  have S' : ∀ h' : Heap, (∀ b o, h₀.get? b = some o → h'.get? b = some o) → h'.IsTuple ax its := fun h' k => by obtain ⟨o, e, r⟩ := S; exact ⟨o, k _ _ e, r⟩
  have hl := S' _ F.keep
  have hlt : ax < s₁.heap.objs.size := by obtain ⟨_, e, _⟩ := hl; exact Heap.lt_size e
  refine wpAny_pyIter_tuple hl ?_
  have up : ∀ b o, s₁.heap.get? b = some o → (s₁.heap.push { cls := .type "tuple_iterator", data := .fields #[.ref ax, .int 0 0] }).get? b = some o := fun b o e => Heap.get?_push_of_some _ e
  refine block_T (Walks.tuple hh s₁.heap.objs.size ax (Nat.ne_of_lt hlt) its) hsz (fun i h st => by obtain ⟨o, e, _⟩ := st.1; exact ⟨o, e⟩)
    (fun i h h' o nw st e e' k N S => ⟨by obtain ⟨o', q, r⟩ := st.1; rw [e] at q; cases q; exact ⟨o, e', r⟩, S' _ k⟩) hcell hkind hx ⟨⟨_, Heap.get?_push_size _ rfl, rfl, rfl⟩, hl.push _⟩ (fun b hb => ?_)
    (F.keeps up) (N.grown up) (Nat.ne_of_lt F.ns.lt) (next_is_new F) (fun p hp => Nat.ne_of_lt (Heap.lt_size (N p hp).1)) trivial (R _ ⟨_, rfl⟩) ?_
  · show b < (s₁.heap.push _).objs.size
    rw [Heap.size_push]
    rcases List.mem_cons.mp hb with rfl | hb
    · exact Nat.lt_succ_self _
    · rw [List.mem_singleton.mp hb]; exact Nat.lt_succ_of_lt hlt
  · intro D C h tk m' ys news' F' N' o1 hn hC₀ hD₀ hCL hDL hCD offC fin
    refine ⟨m', hn, fun h'' hs'' => fin D h'' tk (F'.change hs'' hCL hC₀) (fun p hp => ?_) o1⟩
    refine ⟨hs''.extBut _ _ ?_ (N' p hp).1, (N' p hp).2⟩
    rcases List.mem_cons.mp hp with rfl | hp
    · exact Ne.symm hCD
    · exact offC p hp
/-- a block with a test over a list -/
theorem ListComp_lst {ct elt iter : Expr} {x : Str} {px : Pos} {scope : Scope} {cl : List (Str × Addr)} {pos : Pos} {Q : Value → Shared → Prop} (F₀ : Fr h₀ L s.heap m)
    (hclos : closureFor scope env = pure cl) (hcell : ∀ y ∈ scope.names, y.2 ≠ .cell) (hkind : scope.kind = .function)
    (hnames : ∀ y ∈ scope.names, y.2 = .local → scope.names.lookup y.1 = some .local) (hx : scope.names.lookup x = some .local)
    (h : wpAny (model prog w) A (eval iter env) (fun xv s₁ => Still (CompSrcT prog w A h₀ L m env ct elt x scope cl (fun s₂ => FinE h₀ L m s₂ Q) xv s₁)) E s)
    (hs : ∀ x, foldedSetIterable iter env x = pure x := by intro _; rfl) :
    wpAny (model prog w) A (eval (.ListComp elt [⟨.Name x px, iter, [ct], 0⟩] scope pos) env) Q E s := LCt.ListComp_T F₀ hclos hcell hkind hnames hx h hs
end

-- text C5
theorem text_C5 : True := by
  w_top off
  trivial

/-- a list of ints -/
inductive BitsAt (h : Heap) (v : Addr) (ns : List Int) : Prop where
  | mk {vs : List Value} {c : Nat} : h.get? v = some (listOf vs.toArray c) → IntsAre vs ns → BitsAt h v ns
theorem BitsAt.up {h h' : Heap} {v : Addr} {ns : List Int} (k : ∀ a o, h.get? a = some o → h'.get? a = some o) : BitsAt h v ns → BitsAt h' v ns
  | .mk a b => .mk (k _ _ a) b
def bitsOf (st : Int) : List Int := allB.filter fun b => (st.fdiv b).fmod 2 == 1
def putB (ns : List Int) (b : Int) (z : Bool) : List Int := ns.filter (fun x => x != b) ++ (if z then [b] else [])
theorem fold_filter (p : Int → Bool) (ks : List Int) : ∀ l : List Int, ks.foldl (fun l k => if p k then l ++ [k] else l) l = l ++ ks.filter p := by
  induction ks with
  | nil => intro l; simp
  | cons k r ih => intro l; rw [List.foldl_cons, ih, List.filter_cons]; cases p k <;> simp
theorem fold_grows (p : Int → Bool) : KPfGrows (fun (l : List Int) (k : Int) => if p k then l ++ [k] else l) := by
  intro l k
  dsimp only
  split <;> simp
theorem fresh_rest {g h hk : Heap} {L D : Addr} {X : List Addr} {o : Obj} {l : List (Addr × Obj)} (N : News g L h l) (hm : (D, o) ∈ l) (hn : ∀ p ∈ restOf g L hk X, p.1 ≠ D) (hX : D ∉ X) : Fresh hk D := by
  unfold Fresh
  cases q : hk.get? D with
  | none => rfl
  | some o' => exact absurd rfl (hn (D, o') (mem_restOf.mpr ⟨q, (N _ hm).2.1, (N _ hm).2.2, hX⟩))
theorem off1_ne {D : Addr} : ∀ {l : List (Addr × Obj)}, LCg.Off1 D l → ∀ p ∈ l, p.1 ≠ D
  | [], _, _, hp => (nomatch hp)
  | q :: r, h, p, hp => by
    rcases List.mem_cons.mp hp with rfl | hp
    · exact h.1
    · exact off1_ne h.2 p hp
theorem allB_pos {k : Int} (h : k ∈ allB) : 0 < k ∧ k ≤ 128 := by
  simp only [allB, List.mem_cons, List.not_mem_nil, or_false] at h
  omega
theorem any_mem (b : Int) : ∀ ns : List Int, ns.any (· == b) = decide (b ∈ ns)
  | [] => by simp
  | x :: r => by
    rw [List.any_cons, any_mem b r, Bool.eq_iff_iff]
    simp only [Bool.or_eq_true, beq_iff_eq, decide_eq_true_eq, List.mem_cons]
    exact ⟨fun h => h.elim (fun e => .inl e.symm) .inr, fun h => h.elim (fun e => .inl e.symm) .inr⟩
section
variable {prog : Program} {w : World} {A : Around} {E : Value → Shared → Prop} {s : Shared} {h₀ : Heap} {L v : Addr} {news : List (Addr × Obj)} {vs : List Value} {ns : List Int} {c : Nat} {b : Int} {t : Tok} {Q : Value → Shared → Prop}
theorem in_bits (N : News h₀ L s.heap news) (hm : (v, listOf vs.toArray c) ∈ news) (hi : IntsAre vs ns) (h : Q (.bool (decide (b ∈ ns))) s) : wpAny (model prog w) A (compareOp .In (.int b t) (.ref v)) Q E s :=
  in_list_ints (PySem.IsL.isList (n := c) (N _ hm).1) hi (by rw [any_mem]; exact h)
theorem notin_bits (N : News h₀ L s.heap news) (hm : (v, listOf vs.toArray c) ∈ news) (hi : IntsAre vs ns) (h : Q (.bool (!decide (b ∈ ns))) s) : wpAny (model prog w) A (compareOp .NotIn (.int b t) (.ref v)) Q E s :=
  notin_list_ints (PySem.IsL.isList (n := c) (N _ hm).1) hi (by rw [any_mem]; exact h)
end
theorem off1_fresh {g h : Heap} {L v : Addr} (f : Fresh h v) : ∀ {l : List (Addr × Obj)}, News g L h l → LCg.Off1 v l
  | [], _ => trivial
  | p :: r, N => ⟨fun e => (by have := (N p (.head _)).1; rw [show p.1 = v from e, f] at this; cases this), off1_fresh f fun q hq => N q (.tail _ hq)⟩
/-- behind a call that hands back a new list -/
theorem after_list {P : Prop} {g h h' : Heap} {L v : Addr} {m : Str → Option Value} {l l' : List (Addr × Obj)} {Mut : List Addr} {ns : List Int} (K : Keep Mut L h h') (F : Fr g L h m) (N : News g L h l) (R : Re g L Mut h' l l') (f : Fresh h v) (b : BitsAt h' v ns)
    (k : ∀ vs c, News g L h' ((v, listOf (List.toArray vs) c) :: l') → IntsAre vs ns → LCg.Off1 v l → P) : P := by
  obtain @⟨vs, c, e, i⟩ := b
  refine k vs c (News.add ⟨?_, ?_, _, e⟩ e (R.news N K)) i (off1_fresh f N)
  · intro q
    obtain ⟨o, _, _, ho, _⟩ := F.ns
    rw [← q, f] at ho
    cases ho
  · cases q : g.get? v with
    | none => rfl
    | some o => have := F.keep _ _ q; rw [f] at this; cases this
theorem lines_32 : True := by
  k_with "own mine list" => ((with_reducible rename Keep _ _ _ _ => kK); refine' after_list kK ?kF ?kN_92 ?kR_92 ?kf_92 ?kb_92 ?_; (case kN_92 => k_asm); (case kF => k_asm); (case kR_92 => walk_at "mine re"); (case kf_92 => assumption); (case kb_92 => assumption); intro vs' c' N' i' o'; have o2' := o'; (simp only [LCg.Off1] at o2'); clear kK; (try k_sweep))
  k_with "own compareOp In int ref" => (k_here; k_dflt (refine' in_bits ?N_93 ?m_93 ?i_93 ?_; (case N_93 => k_asm); (case m_93 => k_mem); (case i_93 => assumption)))
  k_with "own compareOp NotIn int ref" => (k_here; k_dflt (refine' notin_bits ?N_94 ?m_94 ?i_94 ?_; (case N_94 => k_asm); (case m_94 => k_mem); (case i_94 => assumption)))
  k_with "own binaryOp FloorDiv int int" => (k_here; (with_reducible refine floordiv_int ?hb_95 ?_ (Or.inl (PyProof.noPylong_small ?hp_95))); (case hb_95 => omega); (case hp_95 => omega))
  trivial

section
local macro_rules | `(tactic| walk_at "eval ListComp") => `(tactic| (k_here; k_dflt (refine ListComp_tup (by k_asm) (by with_unfolding_all rfl) (by decide) (by rfl) (by decide) (by rfl) ?_)))
set_option maxHeartbeats 2000000 in
theorem bits_ok (w : World) (st : Int) (t : Tok) :
    Does w 263 1 [.int st t] [] [] (fun h => True) (fun h r h' => ∃ v, r = .ref v ∧ Fresh h v ∧ BitsAt h' v (bitsOf st)) := by
  have key : model PySem.Challenge.rw_xm0983_01.row.prog w = model PySem.Challenge.rw_xm0983_01.row.prog w → hd.heap_1 w.params = hd.heap_1 w.params →
      Does w 263 1 [.int st t] [] [] (fun h => True) (fun h r h' => ∃ v, r = .ref v ∧ Fresh h v ∧ BitsAt h' v (bitsOf st)) := by
    k_fill
    intro _ _
    refine' does_ofC (binds := [(Str.ofString "number", Value.int st t)]) ?up ?dn (by decide) ?ho ?hcd ?hb ?hl ?c1 ?c2 ?c3 ?c4 ?_
    case ho => k_is
    case hcd => k_is
    case hb => walk_at "mine hb"
    case hl => exact rfl
    case c1 => exact rfl
    case c2 => exact rfl
    case c3 => exact rfl
    case c4 => decide +kernel
    case up => exact fun h h' k p => p
    case dn => exact fun h h' r h'' k ⟨v, e, f, b⟩ => ⟨v, e, fresh_down k f, b⟩
    intro dp un gd outer A₀ base g L s Q E mean mg mb cells B F X T NC hY hapart hmut hpre hd hu hret
    obtain ⟨oc, rfl, dc⟩ := CellsAre.one hY
    have AN : Anc g s.heap := ⟨fun b o e => F.keep b o e⟩
    have AK : Since [] L s.heap s.heap := Since.refl
    have NT : NoTup s.heap [L] := Fr.noTup F NoTup.nil
    have N : News g L s.heap ((L + 1, oc) :: restOf g L s.heap []) := News.add ⟨(NC _ (.head _)).2.1, (NC _ (.head _)).2.2, _, (NC _ (.head _)).1⟩ (NC _ (.head _)).1 rest_news
    with_reducible show wpAny _ _ _ _ _ _
    k_steps
    obtain ⟨its, n, q258, hits⟩ : ∃ its n, g.get? 258 = some (tupO its n) ∧ IntsAre its allB := ⟨_, _, X 258 _ (by k_is), by repeat constructor⟩
    unfold Still
    refine ⟨258, its.toArray, _, rfl, rfl, (by k_asm), N, ⟨_, q258, rfl, _, rfl⟩, (by rw [List.size_toArray, hits.length, sizeLine_eq]; exact Nat.le_of_ble_eq_true rfl), ?_⟩
    intro s₂ hs₂
    obtain ⟨g₂, rfl⟩ := hs₂
    refine kci_list (vs := its) (ns := allB) (fun l k => if (st.fdiv k).fmod 2 == 1 then l ++ [k] else l) hits ?turn ?fin (fold_grows _)
    case turn =>
      intro k t I oI C oC D m₂ ys l h tk E' hk hl hC hx F2 N2 off ne mark
      obtain ⟨hk1, hk2⟩ := allB_pos hk
      clear F
      k_steps
      all_goals (try dsimp only)
      · refine LCg.CompEnd.intro (by k_asm) (by k_asm) _ (fun p hp => hp) (by assumption) trivial ⟨rfl, k, t, rfl, by simp_all⟩
      · refine LCg.CompEnd.intro (by k_asm) (by k_asm) _ (fun p hp => hp) (by assumption) trivial ⟨rfl, by simp_all⟩
    case fin =>
      intro ys hys hlen
      unfold LCg.FinE
      intro D h tk F2 N2 off
      rw [fold_filter, List.nil_append] at hys
      refine hret _ h tk _ F2 (fun a o e hL _ hX => (kept_since AK AN F2 N2 (fun p hp => .tail _ (.tail _ hp))).get a o e hL hX) ⟨D, rfl, fresh_rest N2 (.head _) (off1_ne off.2) (fun q => nomatch q), .mk (News.get N2 (.head _)) hys⟩
  exact key rfl rfl

end
local macro_rules | `(tactic| walk_at "dummy8") => `(tactic| skip)
local macro_rules | `(tactic| walk_at "dummy9") => `(tactic| skip)
theorem lines_33 : True := by
  k_with "own call ref" => (k_here; (with_reducible show wpAny _ _ (call (Value.ref 263) _) _ _ _); k_dflt (refine' Does.use (bits_ok _ _ _) ?kB ?kF ?kX ?kT ?kk ?km_96 ?kp_96 ?kd ?ku ?_; walk_at "mine use"; (case kp_96 => trivial); (case km_96 => walk_at "mine own"); walk_at "mine room"); intro r' h' tk' F' K' P'; obtain ⟨v', e', f', b'⟩ := P'; subst e'; walk_at "mine list"; clear f' b')
  trivial

section
local macro_rules | `(tactic| walk_at "eval ListComp") => `(tactic| (k_here; k_dflt (refine ListComp_lst (by k_asm) (by with_unfolding_all rfl) (by decide) (by rfl) (by decide) (by rfl) ?_)))
set_option maxHeartbeats 2000000 in
theorem put_ok (w : World) (bv : Addr) (ns : List Int) (b : Int) (t : Tok) (z : Bool) :
    Does w 268 1 [.ref bv, .int b t, .bool z] [bv] [] (fun h => BitsAt h bv ns ∧ ns.length ≤ 100) (fun h r h' => ∃ v, r = .ref v ∧ Fresh h v ∧ BitsAt h' v (putB ns b z)) := by
  have key : model PySem.Challenge.rw_xm0983_01.row.prog w = model PySem.Challenge.rw_xm0983_01.row.prog w → hd.heap_1 w.params = hd.heap_1 w.params →
      Does w 268 1 [.ref bv, .int b t, .bool z] [bv] [] (fun h => BitsAt h bv ns ∧ ns.length ≤ 100) (fun h r h' => ∃ v, r = .ref v ∧ Fresh h v ∧ BitsAt h' v (putB ns b z)) := by
    k_fill
    intro _ _
    refine' does_ofC (binds := [(Str.ofString "bits", Value.ref bv), (Str.ofString "bit", Value.int b t), (Str.ofString "is_set", Value.bool z)]) ?up ?dn (by decide) ?ho ?hcd ?hb ?hl ?c1 ?c2 ?c3 ?c4 ?_
    case ho => k_is
    case hcd => k_is
    case hb => walk_at "mine hb"
    case hl => exact rfl
    case c1 => exact rfl
    case c2 => exact rfl
    case c3 => exact rfl
    case c4 => decide +kernel
    case up => exact fun h h' k p => ⟨p.1.up k, p.2⟩
    case dn => exact fun h h' r h'' k ⟨v, e, f, b⟩ => ⟨v, e, fresh_down k f, b⟩
    intro dp un gd outer A₀ base g L s Q E mean mg mb cells B F X T NC hY hapart hmut hpre hd hu hret
    obtain ⟨oc, rfl, dc⟩ := CellsAre.one hY
    have AN : Anc g s.heap := ⟨fun b o e => F.keep b o e⟩
    have AK : Since [bv] L s.heap s.heap := Since.refl
    obtain ⟨hb, hlen⟩ := hpre
    obtain @⟨vs, c, hv, hi⟩ := hb
    have hne := neN (hapart _ (.head _) bv (.head _))
    have NT : NoTup s.heap [L, bv] := Fr.noTup F (.cons hv list_noTup .nil)
    have N : News g L s.heap ((bv, listOf vs.toArray c) :: (L + 1, oc) :: restOf g L s.heap [bv]) := News.add (hmut bv (.head _)) hv (News.add ⟨(NC _ (.head _)).2.1, (NC _ (.head _)).2.2, _, (NC _ (.head _)).1⟩ (NC _ (.head _)).1 rest_news)
    with_reducible show wpAny _ _ _ _ _ _
    k_steps
    unfold Still
    have hlen2 := hi.length
    refine LCt.CompSrcT.ledger rfl (by k_asm) (by k_asm) (by k_mem) (by rw [List.size_toArray, sizeLine_eq]; omega) ?_
    intro g₂
    refine kci_list (vs := vs) (ns := ns) (fun l k => if k != b then l ++ [k] else l) hi ?turn ?fin (fold_grows _)
    case turn =>
      intro k t I oI C oC D m₂ ys l h tk E' hk hl hC hx F2 N2 off ne mark
      clear F
      k_steps
      all_goals (try dsimp only)
      · refine LCg.CompEnd.intro (by k_asm) (by k_asm) _ (fun p hp => hp) (by assumption) (.inr ⟨_, .head _, rfl, _, rfl⟩) ⟨rfl, k, t, rfl, by simp_all⟩
      · refine LCg.CompEnd.intro (by k_asm) (by k_asm) _ (fun p hp => hp) (by assumption) (.inr ⟨_, .head _, rfl, _, rfl⟩) ⟨rfl, by simp_all⟩
    case fin =>
      intro ys hys hlen3
      unfold LCg.FinE
      intro D h tk F2 N2 off
      rw [fold_filter, List.nil_append] at hys
      clear N F
      cases z <;> (k_steps; rename_i Dx hx Fx Nx i1 n1 s1 e1 e2 e3 l1 h3 F3 N3; dsimp only; have hin : ∀ p ∈ restOf g L s.heap [bv], p.1 ≠ hx.objs.size := (fun p hp => Nat.ne_of_lt (Heap.lt_size (Nx p (.tail _ (.tail _ (.tail _ (.tail _ (.tail _ hp)))))).1)); have hbv : hx.objs.size ≠ bv := Nat.ne_of_gt (Heap.lt_size (Nx (bv, _) (.tail _ (.tail _ (.tail _ (.head _))))).1); refine hret _ h3 _ _ F3 (fun a o e hL hC hX => ?_) ⟨_, rfl, fresh_rest N3 (.head _) hin (fun q => hbv (List.mem_singleton.mp q)), .mk (News.get N3 (.head _)) (by simpa [putB] using hys.append i1)⟩; exact (since_cons hv (News.get N3 (.tail _ (.tail _ (.tail _ (.tail _ (.head _)))))) (kept_since AK AN F3 N3 (fun p hp => .tail _ (.tail _ (.tail _ (.tail _ (.tail _ (.tail _ hp)))))))).get a o e hL hX)

  exact key rfl rfl

end
local macro_rules | `(tactic| walk_at "dummy10") => `(tactic| skip)
local macro_rules | `(tactic| walk_at "dummy11") => `(tactic| skip)

-- text C6
theorem text_C6 : True := by
  w_top off
  trivial

theorem lines_34 : True := by
  k_with "own subscriptTail Name Call" => (k_here; k_dflt (refine' allB_item ?q_97 ?a_97 ?b_97 ?_ ?s_97; (case q_97 => exact k_at (by k_asm) (by k_asm) (by k_is)); (case a_97 => assumption); (case b_97 => assumption); (case s_97 => walk_at "mine hs")); intro b' t' hb')
  trivial

theorem len_at {prog : Program} {w : World} {A : Around} {E : Value → Shared → Prop} {s : Shared} {t : Addr} {vs : List Value} {n : Nat} {Q : Value → Shared → Prop} (q : s.heap.get? t = some (tupO vs n)) (hz : vs.toArray.size = 8)
    (h : Q (.int 8 (s.toks + 1)) { s with toks := s.toks + 1 + 1 }) : wpAny (model prog w) A (call (.builtin "len") [.ref t]) Q E s := len_tuple (tup_isTup q) (by rw [hz]; decide) (by rw [hz]; exact h)
theorem lines_35 : True := by
  k_with "own call builtin:len" => (k_here; (with_reducible show wpAny _ _ (call (Value.builtin "len") [Value.ref _]) _ _ _); k_dflt (refine' len_at ?q_98 ?z_98 ?_; (case q_98 => exact k_at (by k_asm) (by k_asm) (by k_is)); (case z_98 => exact rfl)))
  trivial

set_option maxHeartbeats 2000000 in
theorem one_ok (w : World) (src : Addr)  :
    Does w 257 2 [.ref src, .ref 258] [src] [src] (fun h => SrcAt h src ∧ True) (fun h r h' => ∃ b t', r = .int b t' ∧ b ∈ allB ∧ SrcAt h' src) := by
  have key : model PySem.Challenge.rw_xm0983_01.row.prog w = model PySem.Challenge.rw_xm0983_01.row.prog w → hd.heap_1 w.params = hd.heap_1 w.params →
      Does w 257 2 [.ref src, .ref 258] [src] [src] (fun h => SrcAt h src ∧ True) (fun h r h' => ∃ b t', r = .int b t' ∧ b ∈ allB ∧ SrcAt h' src) := by
    k_fill
    intro _ _
    refine' does_of (binds := [(Str.ofString "source", Value.ref src), (Str.ofString "things", Value.ref 258)]) ?up ?dn (by decide) ?ho ?hcd ?hb ?hl ?c1 ?c2 ?c3 ?c4 ?_
    case ho => k_is
    case hcd => k_is
    case hb => walk_at "mine hb"
    case hl => exact locs rfl
    case c1 => exact rfl
    case c2 => exact rfl
    case c3 => exact rfl
    case c4 => decide
    case up => exact fun h h' k p => ⟨p.1.up k, p.2⟩
    case dn => exact fun h h' r h'' k p => p
    intro dp un gd outer A₀ base g L s Q E mean mg mb B F X T hmut hpre hd hu hret
    have AN : Anc g s.heap := ⟨fun b o e => F.keep b o e⟩
    have AK : Since [src] L s.heap s.heap := Since.refl
    obtain ⟨hsrc, htop⟩ := hpre
    obtain @⟨n0, n1, u0, u1, c, hs, g0, g1, g2⟩ := hsrc
    have NT : NoTup s.heap [L, src] := Fr.noTup F (.cons hs list_noTup .nil)
    have N : News g L s.heap ((src, listOf #[.int n0 u0, .int n1 u1] c) :: restOf g L s.heap [src]) := News.add (hmut src (by k_mem)) hs rest_news
    with_reducible show wpAny _ _ _ _ _ _
    k_steps
    all_goals (try dsimp only)
    all_goals refine hret _ _ _ _ (by k_asm) (by walk_at "mine kept") ?_
    all_goals exact ⟨_, _, rfl, by assumption, by walk_at "mine src"⟩
  exact key rfl rfl

theorem lines_36 : True := by
  k_with "own call ref" => (k_here; (with_reducible show wpAny _ _ (call (Value.ref 257) _) _ _ _); k_dflt (refine' Does.use (one_ok _ _) ?kB ?kF ?kX ?kT ?kk ?km_99 ?kp_99 ?kd ?ku ?_; walk_at "mine use"; (case kp_99 => exact ⟨by walk_at "mine src", trivial⟩); (case km_99 => walk_at "mine own"); walk_at "mine room"); intro r' h' tk' F' K' P'; (try dsimp only at P'); obtain ⟨b', t', e', hb', s'⟩ := P'; subst e'; cases s'; walk_at "mine after")
  trivial

set_option maxHeartbeats 2000000 in
theorem info_ok (w : World) (src : Addr)  :
    Does w 275 2 [.ref src] [src] [src] (fun h => SrcAt h src ∧ True) (fun h r h' => ∃ v I, r = .ref v ∧ InfoAt h' v I ∧ 0 ≤ I.st ∧ I.st < 256 ∧ SrcAt h' src) := by
  have key : model PySem.Challenge.rw_xm0983_01.row.prog w = model PySem.Challenge.rw_xm0983_01.row.prog w → hd.heap_1 w.params = hd.heap_1 w.params →
      Does w 275 2 [.ref src] [src] [src] (fun h => SrcAt h src ∧ True) (fun h r h' => ∃ v I, r = .ref v ∧ InfoAt h' v I ∧ 0 ≤ I.st ∧ I.st < 256 ∧ SrcAt h' src) := by
    k_fill
    intro _ _
    refine' does_of (binds := [(Str.ofString "source", Value.ref src)]) ?up ?dn (by decide) ?ho ?hcd ?hb ?hl ?c1 ?c2 ?c3 ?c4 ?_
    case ho => k_is
    case hcd => k_is
    case hb => walk_at "mine hb"
    case hl => exact locs rfl
    case c1 => exact rfl
    case c2 => exact rfl
    case c3 => exact rfl
    case c4 => decide
    case up => exact fun h h' k p => ⟨p.1.up k, p.2⟩
    case dn => exact fun h h' r h'' k p => p
    intro dp un gd outer A₀ base g L s Q E mean mg mb B F X T hmut hpre hd hu hret
    have AN : Anc g s.heap := ⟨fun b o e => F.keep b o e⟩
    have AK : Since [src] L s.heap s.heap := Since.refl
    obtain ⟨hsrc, htop⟩ := hpre
    obtain @⟨n0, n1, u0, u1, c, hs, g0, g1, g2⟩ := hsrc
    have NT : NoTup s.heap [L, src] := Fr.noTup F (.cons hs list_noTup .nil)
    have N : News g L s.heap ((src, listOf #[.int n0 u0, .int n1 u1] c) :: restOf g L s.heap [src]) := News.add (hmut src (by k_mem)) hs rest_news
    with_reducible show wpAny _ _ _ _ _ _
    k_steps
    all_goals (try dsimp only)
    all_goals refine hret _ _ _ _ (by k_asm) (by walk_at "mine kept") ?_
    all_goals exact ⟨_, ⟨_, _, _, _, _, _⟩, rfl, by walk_at "mine newinfo", by assumption, by assumption, by walk_at "mine src"⟩
  exact key rfl rfl

theorem lines_37 : True := by
  k_with "own call ref" => (k_here; (with_reducible show wpAny _ _ (call (Value.ref 275) _) _ _ _); k_dflt (refine' Does.use (info_ok _ _) ?kB ?kF ?kX ?kT ?kk ?km_100 ?kp_100 ?kd ?ku ?_; walk_at "mine use"; (case kp_100 => exact ⟨by walk_at "mine src", trivial⟩); (case km_100 => walk_at "mine own"); walk_at "mine room"); intro r' h' tk' F' K' P'; (try dsimp only at P'); obtain ⟨v', I', e', i', g0', g1', s'⟩ := P'; subst e'; cases s'; walk_at "mine anew")
  trivial

-- text M1
theorem text_M1 : True := by
  w_top off
  trivial
def flip (st b : Int) : Int := if b ∈ bitsOf st then st - b else st + b
def okFlip (n : Nat) : Bool := allB.all fun b => ((hb n 4 == hb (flip n b) 4) == (b != 4)) && decide (0 ≤ flip n b) && decide (flip n b < 256) &&
  ((Builtin.bitAnd (Builtin.bitXor (flip n b) n) 15 == 0) == !(decide (b ∈ [1, 2, 4, 8])))
theorem flips : ∀ n : Nat, n < 256 → okFlip n = true := by decide +kernel
def okBits (n : Nat) : Bool := decide ((bitsOf n).sum = n) && (allB.all fun b => decide (b ∈ bitsOf n) == hb n b) && (Builtin.bitAnd (Builtin.bitXor n n) 15 == 0)
theorem bits256 : ∀ n : Nat, n < 256 → okBits n = true := by decide +kernel
def okPut (n : Nat) : Bool := allB.all fun b => ([true, false].all fun z => (putB (bitsOf n) b z).isPerm (bitsOf (wb n b z)) && decide (0 ≤ wb n b z) && decide (wb n b z < 256))
theorem puts : ∀ n : Nat, n < 256 → okPut n = true := by decide +kernel

/-- what one INFO is to another -/
inductive Near (I : Info) : Info → Bool → Int → Prop where
  | other {J : Info} : I.ends J = false → J.ends I = false → J.st = I.st → Near I J false 0
  | same : Near I I true 0
  | bit {b : Int} : b ∈ allB → Near I ⟨I.a, I.b, I.c, I.d, I.e, flip I.st b⟩ true b
theorem near_sub {I : Info} {b : Int} (hb : b ∈ allB) (h : decide (b ∈ bitsOf I.st) = true) : Near I ⟨I.a, I.b, I.c, I.d, I.e, I.st - b⟩ true b := by
  have e : flip I.st b = I.st - b := if_pos (of_decide_eq_true h)
  exact e ▸ Near.bit hb
theorem near_add {I : Info} {b : Int} (hb : b ∈ allB) (h : decide (b ∈ bitsOf I.st) = false) : Near I ⟨I.a, I.b, I.c, I.d, I.e, I.st + b⟩ true b := by
  have e : flip I.st b = I.st + b := if_neg (of_decide_eq_false h)
  exact e ▸ Near.bit hb
theorem ends_ne {I J : Info} (h : I.a ≠ J.a ∨ I.b ≠ J.b ∨ I.c ≠ J.c ∨ I.d ≠ J.d ∨ I.e ≠ J.e) : I.ends J = false := decide_eq_false fun q => by
  obtain ⟨q1, q2, q3, q4, q5⟩ := q
  rcases h with h | h | h | h | h <;> exact h (by assumption)
theorem flip_at {st b : Int} (h0 : 0 ≤ st) (h1 : st < 256) (hb' : b ∈ allB) :
    ((hb st 4 == hb (flip st b) 4) = (b != 4)) ∧ 0 ≤ flip st b ∧ flip st b < 256 ∧ ((Builtin.bitAnd (Builtin.bitXor (flip st b) st) 15 == 0) = !(decide (b ∈ [1, 2, 4, 8]))) := by
  obtain ⟨n, rfl⟩ := Int.eq_ofNat_of_zero_le h0
  have := List.all_eq_true.mp (flips n (by omega)) b hb'
  simp only [Bool.and_eq_true, decide_eq_true_eq, beq_iff_eq] at this
  exact ⟨this.1.1.1, this.1.1.2, this.1.2, by rw [this.2]⟩
theorem bits_at {st : Int} (h0 : 0 ≤ st) (h1 : st < 256) : (bitsOf st).sum = st ∧ (∀ b ∈ allB, decide (b ∈ bitsOf st) = hb st b) ∧ (Builtin.bitAnd (Builtin.bitXor st st) 15 == 0) = true := by
  obtain ⟨n, rfl⟩ := Int.eq_ofNat_of_zero_le h0
  have := bits256 n (by omega)
  simp only [okBits, Bool.and_eq_true, decide_eq_true_eq] at this
  exact ⟨this.1.1, fun b hb' => by have := List.all_eq_true.mp this.1.2 b hb'; simpa using this, this.2⟩
theorem put_at {st b : Int} (h0 : 0 ≤ st) (h1 : st < 256) (hb' : b ∈ allB) (z : Bool) : (putB (bitsOf st) b z).Perm (bitsOf (wb st b z)) ∧ 0 ≤ wb st b z ∧ wb st b z < 256 := by
  obtain ⟨n, rfl⟩ := Int.eq_ofNat_of_zero_le h0
  have := List.all_eq_true.mp (List.all_eq_true.mp (puts n (by omega)) b hb') z (by cases z <;> simp)
  simp only [Bool.and_eq_true, decide_eq_true_eq] at this
  exact ⟨List.isPerm_iff.mp this.1.1, this.1.2, this.2⟩
theorem ends_self (I : Info) : I.ends I = true := decide_eq_true ⟨rfl, rfl, rfl, rfl, rfl⟩
theorem same_self (I : Info) : I.same I = true := by unfold Info.same; rw [ends_self]; simp
theorem near_same {I J : Info} {z : Bool} {b : Int} (n : Near I J z b) (h0 : 0 ≤ I.st) (h1 : I.st < 256) : I.same J = (z && b != 4) ∧ J.same I = (z && b != 4) := by
  cases n with
  | other e1 e2 e3 => unfold Info.same; rw [e1, e2]; exact ⟨rfl, rfl⟩
  | same => rw [same_self]; exact ⟨by decide, by decide⟩
  | bit hb' =>
    have := (flip_at h0 h1 hb').1
    unfold Info.same
    rw [show I.ends ⟨I.a, I.b, I.c, I.d, I.e, flip I.st b⟩ = true from ends_self I, show Info.ends ⟨I.a, I.b, I.c, I.d, I.e, flip I.st b⟩ I = true from ends_self I]
    simp only [Bool.true_and]
    exact ⟨this, by rw [← this, Bool.beq_comm]⟩
theorem near_bounds {I J : Info} {z : Bool} {b : Int} (n : Near I J z b) (h0 : 0 ≤ I.st) (h1 : I.st < 256) : 0 ≤ J.st ∧ J.st < 256 := by
  cases n with
  | other e1 e2 e3 => rw [e3]; exact ⟨h0, h1⟩
  | same => exact ⟨h0, h1⟩
  | bit hb' => exact ⟨(flip_at h0 h1 hb').2.1, (flip_at h0 h1 hb').2.2.1⟩

-- text C7
theorem text_C7 : True := by
  w_top off
  trivial

theorem lines_38 : True := by
  k_with "own mine ends" => (refine ends_ne ?_; (try dsimp only); omega)
  k_with "own mine near" => first | exact Near.same | exact near_sub (by assumption) (decide_eq_true (by assumption)) | exact near_add (by assumption) (decide_eq_false (by assumption)) | exact Near.other (by walk_at "mine ends") (by walk_at "mine ends") rfl
  trivial

set_option maxHeartbeats 2000000 in
theorem near_ok (w : World) (src : Addr) (v : Addr) (I : Info) :
    Does w 282 3 [.ref src, .ref v] [src] [src] (fun h => SrcAt h src ∧ (InfoAt h v I ∧ 0 ≤ I.st ∧ I.st < 256)) (fun h r h' => ∃ u x J z b t', r = .ref u ∧ TupAt h' u [.ref x, .bool z, .int b t'] ∧ InfoAt h' x J ∧ Near I J z b ∧ SrcAt h' src) := by
  have key : model PySem.Challenge.rw_xm0983_01.row.prog w = model PySem.Challenge.rw_xm0983_01.row.prog w → hd.heap_1 w.params = hd.heap_1 w.params →
      Does w 282 3 [.ref src, .ref v] [src] [src] (fun h => SrcAt h src ∧ (InfoAt h v I ∧ 0 ≤ I.st ∧ I.st < 256)) (fun h r h' => ∃ u x J z b t', r = .ref u ∧ TupAt h' u [.ref x, .bool z, .int b t'] ∧ InfoAt h' x J ∧ Near I J z b ∧ SrcAt h' src) := by
    k_fill
    intro _ _
    refine' does_of (binds := [(Str.ofString "source", Value.ref src), (Str.ofString "info", Value.ref v)]) ?up ?dn (by decide) ?ho ?hcd ?hb ?hl ?c1 ?c2 ?c3 ?c4 ?_
    case ho => k_is
    case hcd => k_is
    case hb => walk_at "mine hb"
    case hl => exact locs rfl
    case c1 => exact rfl
    case c2 => exact rfl
    case c3 => exact rfl
    case c4 => decide
    case up => exact fun h h' k p => ⟨p.1.up k, all_info k p.2.1, p.2.2⟩
    case dn => exact fun h h' r h'' k p => p
    intro dp un gd outer A₀ base g L s Q E mean mg mb B F X T hmut hpre hd hu hret
    have AN : Anc g s.heap := ⟨fun b o e => F.keep b o e⟩
    have AK : Since [src] L s.heap s.heap := Since.refl
    obtain ⟨hsrc, htop⟩ := hpre
    obtain @⟨n0, n1, u0, u1, c, hs, g0, g1, g2⟩ := hsrc
    have NT : NoTup s.heap [L, src] := Fr.noTup F (.cons hs list_noTup .nil)
    have N : News g L s.heap ((src, listOf #[.int n0 u0, .int n1 u1] c) :: restOf g L s.heap [src]) := News.add (hmut src (by k_mem)) hs rest_news
    with_reducible show wpAny _ _ _ _ _ _
    obtain ⟨hI, hst, hst2⟩ := htop
    k_steps
    all_goals (try dsimp only)
    all_goals refine hret _ _ _ _ (by k_asm) (by walk_at "mine kept") ?_
    all_goals first | exact ⟨_, _, ⟨_, _, _, _, _, _⟩, _, _, _, rfl, (by walk_at "mine tup"), (by walk_at "mine newinfo"), (by walk_at "mine near"), (by walk_at "mine src")⟩ | exact ⟨_, _, I, _, _, _, rfl, (by walk_at "mine tup"), (by walk_at "mine info"), (by walk_at "mine near"), (by walk_at "mine src")⟩
  exact key rfl rfl

theorem lines_39 : True := by
  k_with "own call ref" => (k_here; (with_reducible show wpAny _ _ (call (Value.ref 282) _) _ _ _); k_dflt (refine' Does.use (near_ok _ _ _ _) ?kB ?kF ?kX ?kT ?kk ?km_103 ?kp_103 ?kd ?ku ?_; walk_at "mine use"; (case kp_103 => exact ⟨by walk_at "mine src", by walk_at "mine info", by assumption, by assumption⟩); (case km_103 => walk_at "mine own"); walk_at "mine room"); intro r' h' tk' F' K' P'; (try dsimp only at P'); obtain ⟨u', x', J', z', b', t', e', tu', ix', nr', s'⟩ := P'; subst e'; cases s'; walk_at "mine anew")
  trivial

set_option maxHeartbeats 2000000 in
theorem ends_right_ok (w : World) (src : Addr)  :
    Does w 289 4 [.ref src] [src] [src] (fun h => SrcAt h src ∧ True) (fun h r h' => r = .bool true ∧ SrcAt h' src) := by
  have key : model PySem.Challenge.rw_xm0983_01.row.prog w = model PySem.Challenge.rw_xm0983_01.row.prog w → hd.heap_1 w.params = hd.heap_1 w.params →
      Does w 289 4 [.ref src] [src] [src] (fun h => SrcAt h src ∧ True) (fun h r h' => r = .bool true ∧ SrcAt h' src) := by
    k_fill
    intro _ _
    refine' does_of (binds := [(Str.ofString "source", Value.ref src)]) ?up ?dn (by decide) ?ho ?hcd ?hb ?hl ?c1 ?c2 ?c3 ?c4 ?_
    case ho => k_is
    case hcd => k_is
    case hb => walk_at "mine hb"
    case hl => exact locs rfl
    case c1 => exact rfl
    case c2 => exact rfl
    case c3 => exact rfl
    case c4 => decide
    case up => exact fun h h' k p => ⟨p.1.up k, p.2⟩
    case dn => exact fun h h' r h'' k p => p
    intro dp un gd outer A₀ base g L s Q E mean mg mb B F X T hmut hpre hd hu hret
    have AN : Anc g s.heap := ⟨fun b o e => F.keep b o e⟩
    have AK : Since [src] L s.heap s.heap := Since.refl
    obtain ⟨hsrc, htop⟩ := hpre
    obtain @⟨n0, n1, u0, u1, c, hs, g0, g1, g2⟩ := hsrc
    have NT : NoTup s.heap [L, src] := Fr.noTup F (.cons hs list_noTup .nil)
    have N : News g L s.heap ((src, listOf #[.int n0 u0, .int n1 u1] c) :: restOf g L s.heap [src]) := News.add (hmut src (by k_mem)) hs rest_news
    with_reducible show wpAny _ _ _ _ _ _
    k_steps
    all_goals (try dsimp only)
    all_goals refine hret _ _ _ _ (by k_asm) (by walk_at "mine kept") ?_
    all_goals (refine ⟨?_, by walk_at "mine src"⟩)
    all_goals (first | (exfalso; simp_all [same_self]; done) | (with_reducible rename Near _ _ _ _ => hn; obtain ⟨e1, e2⟩ := near_same hn (by assumption) (by assumption); simp_all))

  exact key rfl rfl

theorem lines_40 : True := by
  k_with "own call ref" => (k_here; (with_reducible show wpAny _ _ (call (Value.ref 289) _) _ _ _); k_dflt (refine' Does.use (ends_right_ok _ _) ?kB ?kF ?kX ?kT ?kk ?km_104 ?kp_104 ?kd ?ku ?_; walk_at "mine use"; (case kp_104 => exact ⟨by walk_at "mine src", trivial⟩); (case km_104 => walk_at "mine own"); walk_at "mine room"); intro r' h' tk' F' K' P'; (try dsimp only at P'); obtain ⟨e', s'⟩ := P'; subst e'; cases s'; walk_at "mine after")
  trivial

-- text C9
theorem text_C9 : True := by
  w_top off
  trivial

/-- what the law holds of a port -/
structure SS where
  sa : Int
  sb : Int
  own : List Int
  who : Info
  theirs : List Int
  heard : Str
  left : Int
  choice : Str
  send : Bool
  turn : Int
inductive StandAt (w : World) (h : Heap) (d ov tv : Addr) : SS → Prop where
  | mk {sa sb : Int} {own : List Int} {who : Info} {theirs : List Int} {heard : Str} {left : Int} {choice : Str} {send : Bool} {turn : Int} {o : Obj} {sv wv : Addr} {t0 t1 t2 t3 : Tok} {vs : List Value} {c : Nat} {vs' : List Value} {c' : Nat} :
      h.get? d = some o → o.IsDictOf (PySem.strKind PySem.Challenge.rw_xm0983_01.row.prog w) [(Str.ofString "system", .ref sv), (Str.ofString "own", .ref ov), (Str.ofString "who", .ref wv), (Str.ofString "theirs", .ref tv), (Str.ofString "heard", .str heard t0), (Str.ofString "left", .int left t1), (Str.ofString "choice", .str choice t2), (Str.ofString "send", .bool send), (Str.ofString "turn", .int turn t3)] → PairAt h sv sa sb → TriAt h wv who → h.get? ov = some (listOf vs.toArray c) → IntsAre vs own → h.get? tv = some (listOf vs'.toArray c') → IntsAre vs' theirs →
      StandAt w h d ov tv ⟨sa, sb, own, who, theirs, heard, left, choice, send, turn⟩
inductive StandH (w : World) (h : Heap) (d ov tv : Addr) (sa sb : Int) (own : List Int) (who : Info) (theirs : List Int) (heard : Str) (left : Int) (choice : Str) (send : Bool) (turn : Int) : Prop where
  | mk {o : Obj} {sv wv : Addr} {t0 t1 t2 t3 : Tok} {vs : List Value} {c : Nat} {vs' : List Value} {c' : Nat} :
      h.get? d = some o → o.IsDictOf (PySem.strKind PySem.Challenge.rw_xm0983_01.row.prog w) [(Str.ofString "system", .ref sv), (Str.ofString "own", .ref ov), (Str.ofString "who", .ref wv), (Str.ofString "theirs", .ref tv), (Str.ofString "heard", .str heard t0), (Str.ofString "left", .int left t1), (Str.ofString "choice", .str choice t2), (Str.ofString "send", .bool send), (Str.ofString "turn", .int turn t3)] → PairAt h sv sa sb → TriAt h wv who → h.get? ov = some (listOf vs.toArray c) → IntsAre vs own → h.get? tv = some (listOf vs'.toArray c') → IntsAre vs' theirs →
      StandH w h d ov tv sa sb own who theirs heard left choice send turn
theorem StandAt.out {w : World} {h : Heap} {d ov tv : Addr} {sa sb : Int} {own : List Int} {who : Info} {theirs : List Int} {heard : Str} {left : Int} {choice : Str} {send : Bool} {turn : Int} : StandAt w h d ov tv ⟨sa, sb, own, who, theirs, heard, left, choice, send, turn⟩ → StandH w h d ov tv sa sb own who theirs heard left choice send turn
  | .mk a b e f i j l m => .mk a b e f i j l m
theorem all_tri {h h' : Heap} {v : Addr} {I : Info} (k : ∀ a o, h.get? a = some o → h'.get? a = some o) (i : TriAt h v I) : TriAt h' v I := KeepT.tri ⟨fun _ _ _ e => k _ _ e⟩ i
theorem StandAt.up {w : World} {h h' : Heap} {d ov tv : Addr} {S : SS} (k : ∀ a o, h.get? a = some o → h'.get? a = some o) : StandAt w h d ov tv S → StandAt w h' d ov tv S
  | .mk a b e f i j l m => .mk (k _ _ a) b (all_pair k e) (all_tri k f) (k _ _ i) j (k _ _ l) m
theorem dictobj_noTup {w : World} {o : Obj} {kvs : List (Str × Value)} (h : o.IsDictOf (PySem.strKind PySem.Challenge.rw_xm0983_01.row.prog w) kvs) : ∀ vs k, o ≠ tupO vs k := fun vs k e => by
  obtain ⟨es, ep, _, hd, _⟩ := h
  rw [e] at hd
  cases hd
theorem dictobj_ne {w : World} {o o' : Obj} {kvs : List (Str × Value)} (h : o.IsDictOf (PySem.strKind PySem.Challenge.rw_xm0983_01.row.prog w) kvs) (n : ∀ es k, Data.dict es k ≠ o'.data) : o.data ≠ o'.data := fun e => by
  obtain ⟨es, ep, _, hd, _⟩ := h
  exact n es ep (hd.symm.trans e)
theorem dictobj_ne' {w : World} {o o' : Obj} {kvs : List (Str × Value)} (h : o.IsDictOf (PySem.strKind PySem.Challenge.rw_xm0983_01.row.prog w) kvs) (n : ∀ es k, Data.dict es k ≠ o'.data) : o'.data ≠ o.data := fun e => dictobj_ne h n e.symm
theorem le_line {n : Nat} (h : Nat.ble n 16777216 = true) : n ≤ sizeLine := by
  rw [sizeLine_eq]
  exact Nat.le_of_ble_eq_true h
theorem lines_41 : True := by
  k_with "own subscriptTail Name Constant ref str" => (k_here; k_dflt (refine' kda_item (knd := PySem.strKind _ _) ?N_105 ?m_105 ?d_105 ?k_105 ?v_105 ?_ ?s_105 ?g_105; (case N_105 => k_asm); (case m_105 => k_mem); (case d_105 => with_reducible assumption); (case k_105 => exact strKind_is _ _ _ _); (case v_105 => exact rfl); (case s_105 => walk_at "mine hs"); (case g_105 => kmk_pure)))
  trivial

theorem st_own {a b c d e f g h i v : Value} : stored [(Str.ofString "system", a), (Str.ofString "own", b), (Str.ofString "who", c), (Str.ofString "theirs", d), (Str.ofString "heard", e), (Str.ofString "left", f), (Str.ofString "choice", g), (Str.ofString "send", h), (Str.ofString "turn", i)] (Str.ofString "own") v = [(Str.ofString "system", a), (Str.ofString "own", v), (Str.ofString "who", c), (Str.ofString "theirs", d), (Str.ofString "heard", e), (Str.ofString "left", f), (Str.ofString "choice", g), (Str.ofString "send", h), (Str.ofString "turn", i)] := by rfl
theorem st_who {a b c d e f g h i v : Value} : stored [(Str.ofString "system", a), (Str.ofString "own", b), (Str.ofString "who", c), (Str.ofString "theirs", d), (Str.ofString "heard", e), (Str.ofString "left", f), (Str.ofString "choice", g), (Str.ofString "send", h), (Str.ofString "turn", i)] (Str.ofString "who") v = [(Str.ofString "system", a), (Str.ofString "own", b), (Str.ofString "who", v), (Str.ofString "theirs", d), (Str.ofString "heard", e), (Str.ofString "left", f), (Str.ofString "choice", g), (Str.ofString "send", h), (Str.ofString "turn", i)] := by rfl
theorem st_theirs {a b c d e f g h i v : Value} : stored [(Str.ofString "system", a), (Str.ofString "own", b), (Str.ofString "who", c), (Str.ofString "theirs", d), (Str.ofString "heard", e), (Str.ofString "left", f), (Str.ofString "choice", g), (Str.ofString "send", h), (Str.ofString "turn", i)] (Str.ofString "theirs") v = [(Str.ofString "system", a), (Str.ofString "own", b), (Str.ofString "who", c), (Str.ofString "theirs", v), (Str.ofString "heard", e), (Str.ofString "left", f), (Str.ofString "choice", g), (Str.ofString "send", h), (Str.ofString "turn", i)] := by rfl
theorem st_heard {a b c d e f g h i v : Value} : stored [(Str.ofString "system", a), (Str.ofString "own", b), (Str.ofString "who", c), (Str.ofString "theirs", d), (Str.ofString "heard", e), (Str.ofString "left", f), (Str.ofString "choice", g), (Str.ofString "send", h), (Str.ofString "turn", i)] (Str.ofString "heard") v = [(Str.ofString "system", a), (Str.ofString "own", b), (Str.ofString "who", c), (Str.ofString "theirs", d), (Str.ofString "heard", v), (Str.ofString "left", f), (Str.ofString "choice", g), (Str.ofString "send", h), (Str.ofString "turn", i)] := by rfl
theorem st_left {a b c d e f g h i v : Value} : stored [(Str.ofString "system", a), (Str.ofString "own", b), (Str.ofString "who", c), (Str.ofString "theirs", d), (Str.ofString "heard", e), (Str.ofString "left", f), (Str.ofString "choice", g), (Str.ofString "send", h), (Str.ofString "turn", i)] (Str.ofString "left") v = [(Str.ofString "system", a), (Str.ofString "own", b), (Str.ofString "who", c), (Str.ofString "theirs", d), (Str.ofString "heard", e), (Str.ofString "left", v), (Str.ofString "choice", g), (Str.ofString "send", h), (Str.ofString "turn", i)] := by rfl
theorem st_choice {a b c d e f g h i v : Value} : stored [(Str.ofString "system", a), (Str.ofString "own", b), (Str.ofString "who", c), (Str.ofString "theirs", d), (Str.ofString "heard", e), (Str.ofString "left", f), (Str.ofString "choice", g), (Str.ofString "send", h), (Str.ofString "turn", i)] (Str.ofString "choice") v = [(Str.ofString "system", a), (Str.ofString "own", b), (Str.ofString "who", c), (Str.ofString "theirs", d), (Str.ofString "heard", e), (Str.ofString "left", f), (Str.ofString "choice", v), (Str.ofString "send", h), (Str.ofString "turn", i)] := by rfl
theorem st_send {a b c d e f g h i v : Value} : stored [(Str.ofString "system", a), (Str.ofString "own", b), (Str.ofString "who", c), (Str.ofString "theirs", d), (Str.ofString "heard", e), (Str.ofString "left", f), (Str.ofString "choice", g), (Str.ofString "send", h), (Str.ofString "turn", i)] (Str.ofString "send") v = [(Str.ofString "system", a), (Str.ofString "own", b), (Str.ofString "who", c), (Str.ofString "theirs", d), (Str.ofString "heard", e), (Str.ofString "left", f), (Str.ofString "choice", g), (Str.ofString "send", v), (Str.ofString "turn", i)] := by rfl
theorem st_turn {a b c d e f g h i v : Value} : stored [(Str.ofString "system", a), (Str.ofString "own", b), (Str.ofString "who", c), (Str.ofString "theirs", d), (Str.ofString "heard", e), (Str.ofString "left", f), (Str.ofString "choice", g), (Str.ofString "send", h), (Str.ofString "turn", i)] (Str.ofString "turn") v = [(Str.ofString "system", a), (Str.ofString "own", b), (Str.ofString "who", c), (Str.ofString "theirs", d), (Str.ofString "heard", e), (Str.ofString "left", f), (Str.ofString "choice", g), (Str.ofString "send", h), (Str.ofString "turn", v)] := by rfl

theorem lines_42 : True := by
  k_with "own setItem ref str" => (k_here; k_dflt (refine' kda_set (knd := PySem.strKind _ _) ?F_106 ?N_106 ?U_106 ?d_106 ?k_106 ?z_106 ?_; (case F_106 => k_asm); (case N_106 => k_asm); (case U_106 => k_updF); (case d_106 => with_reducible assumption); (case k_106 => exact strKind_is _ _ _ _); (case z_106 => exact le_line (by with_unfolding_all rfl))); intro h' o' F' N' hd'; (try dsimp only at N'); (simp only [st_own, st_who, st_theirs, st_heard, st_left, st_choice, st_send, st_turn] at hd'); (try k_sweep))
  k_with "own mine notup1" => exact dictobj_noTup (by with_reducible assumption)
  k_with "own mine stand" => exact StandAt.mk (News.get (by k_asm) (by k_mem)) (by first | assumption) (by walk_at "mine pair") (by walk_at "mine tri") (News.get (by k_asm) (by k_mem)) (by assumption) (News.get (by k_asm) (by k_mem)) (by first | assumption | exact .cons _ _ (.cons _ _ (.cons _ _ .nil)))
  trivial

set_option maxHeartbeats 2000000 in
theorem quiet_ok (w : World) (p dx d ov tv : Addr) (P : PS) (S : SS) :
    Does w 317 1 [.ref p, .ref d] [p, ov, tv, dx, d] [dx, d] (fun h => PortAt w h p dx P ∧ StandAt w h d ov tv S ∧ d ≠ dx) (fun h r h' => r = .none ∧ PortAt w h' p dx ⟨P.row, P.A, P.B, P.heard, P.left, P.choice, 5, false⟩ ∧ StandAt w h' d ov tv ⟨S.sa, S.sb, S.own, S.who, S.theirs, S.heard, S.left, S.choice, false, 5⟩) := by
  have key : model PySem.Challenge.rw_xm0983_01.row.prog w = model PySem.Challenge.rw_xm0983_01.row.prog w → hd.heap_1 w.params = hd.heap_1 w.params →
      Does w 317 1 [.ref p, .ref d] [p, ov, tv, dx, d] [dx, d] (fun h => PortAt w h p dx P ∧ StandAt w h d ov tv S ∧ d ≠ dx) (fun h r h' => r = .none ∧ PortAt w h' p dx ⟨P.row, P.A, P.B, P.heard, P.left, P.choice, 5, false⟩ ∧ StandAt w h' d ov tv ⟨S.sa, S.sb, S.own, S.who, S.theirs, S.heard, S.left, S.choice, false, 5⟩) := by
    k_fill
    intro _ _
    refine' does_of (binds := [(Str.ofString "port", Value.ref p), (Str.ofString "stand", Value.ref d)]) ?up ?dn (by decide) ?ho ?hcd ?hb ?hl ?c1 ?c2 ?c3 ?c4 ?_
    case ho => k_is
    case hcd => k_is
    case hb => walk_at "mine hb"
    case hl => exact locs rfl
    case c1 => exact rfl
    case c2 => exact rfl
    case c3 => exact rfl
    case c4 => decide
    case up => exact fun h h' k p => ⟨p.1.up k, p.2.1.up k, p.2.2⟩
    case dn => exact fun h h' r h'' k p => p
    intro dp un gd outer A₀ base g L s Q E mean mg mb B F X T hmut hpre hd hu hret
    have AN : Anc g s.heap := ⟨fun b o e => F.keep b o e⟩
    have AK : Since [p, ov, tv, dx, d] L s.heap s.heap := Since.refl
    obtain ⟨hport, hstand, hne⟩ := hpre
    obtain @⟨row, A, B, heard, left, choice, turn, send, es, av, pv, hp, hq, hpe, ia, ip⟩ := hport
    obtain @⟨sa, sb, own, who, theirs, sheard, sleft, schoice, ssend, sturn, o, sv, wv, s0, s1, s2, s3, vs, c, vs', c', hd0, hdict, isv, iwv, hov, iov, htv, itv⟩ := hstand
    replace hne := neN hne
    have ne_p_ov := neN (at_ne hp hov (dne rfl))
    have ne_p_tv := neN (at_ne hp htv (dne rfl))
    have ne_p_dx := neN (at_ne hp hq (dne rfl))
    have ne_p_d := neN (at_ne hp hd0 (dictobj_ne' hdict (fun es n => dne0 rfl)))
    have ne_ov_dx := neN (at_ne hov hq (dne rfl))
    have ne_ov_d := neN (at_ne hov hd0 (dictobj_ne' hdict (fun es n => dne0 rfl)))
    have ne_tv_dx := neN (at_ne htv hq (dne rfl))
    have ne_tv_d := neN (at_ne htv hd0 (dictobj_ne' hdict (fun es n => dne0 rfl)))
    have NT : NoTup s.heap [L, p, ov, tv, dx, d] := Fr.noTup F (.cons hp inst_noTup (.cons hov list_noTup (.cons htv list_noTup (.cons hq dict_noTup (.cons hd0 (dictobj_noTup hdict) .nil)))))
    have N : News g L s.heap ((p, instObj 190 dx) :: (ov, listOf vs.toArray c) :: (tv, listOf vs'.toArray c') :: (dx, dictOf es 12) :: (d, o) :: restOf g L s.heap [p, ov, tv, dx, d]) := News.add (hmut p (by k_mem)) hp (News.add (hmut ov (by k_mem)) hov (News.add (hmut tv (by k_mem)) htv (News.add (hmut dx (by k_mem)) hq (News.add (hmut d (by k_mem)) hd0 (rest_news)))))
    with_reducible show wpAny _ _ _ _ _ _
    k_steps
    all_goals (try dsimp only)
    all_goals refine hret _ _ _ _ (by k_asm) (since_cons htv (News.get (by k_asm) (by k_mem)) (since_cons hov (News.get (by k_asm) (by k_mem)) (since_cons hp (News.get (by k_asm) (by k_mem)) (by walk_at "mine kept")))) ?_
    all_goals exact ⟨rfl, by walk_at "mine port", by walk_at "mine stand"⟩
  exact key rfl rfl

-- text C10
theorem text_C10 : True := by
  w_top off
  trivial

def Z5 : Info := ⟨0, 0, 0, 0, 0, 0⟩
def silentS (S : SS) : SS := if S.heard == Str.ofString "current" then
    ⟨S.sa, S.sb, putB S.own 128 true, S.who, putB (putB S.theirs 8 false) 2 true, Str.ofString "expired", 3, S.choice, true, 1⟩
  else ⟨S.sa, S.sb, putB (putB S.own 128 false) 64 true, Z5, [8, 16, 32], Str.ofString "defaulted", S.left, if !S.who.ends Z5 || !decide (64 ∈ S.own) then Str.ofString "unselected" else S.choice, S.send, S.turn⟩
theorem StandAt.of {w : World} {h : Heap} {d ov tv : Addr} {S S' : SS} (a : StandAt w h d ov tv S) (e : S = S') : StandAt w h d ov tv S' := e ▸ a
theorem putB_len (ns : List Int) (b : Int) (z : Bool) : (putB ns b z).length ≤ ns.length + 1 := by
  unfold putB
  rw [List.length_append]
  have := List.length_filter_le (fun x => x != b) ns
  cases z <;> simp <;> omega
theorem dict_ch {prog : Program} {w : World} {o : Obj} {a0 a1 a2 a3 a4 a5 a7 a8 : Value} {c c' : Str} {t : Tok} (h : o.IsDictOf (PySem.strKind prog w) [(Str.ofString "system", a0), (Str.ofString "own", a1), (Str.ofString "who", a2), (Str.ofString "theirs", a3), (Str.ofString "heard", a4), (Str.ofString "left", a5), (Str.ofString "choice", .str c t), (Str.ofString "send", a7), (Str.ofString "turn", a8)]) (e : c = c') : o.IsDictOf (PySem.strKind prog w) [(Str.ofString "system", a0), (Str.ofString "own", a1), (Str.ofString "who", a2), (Str.ofString "theirs", a3), (Str.ofString "heard", a4), (Str.ofString "left", a5), (Str.ofString "choice", .str c' t), (Str.ofString "send", a7), (Str.ofString "turn", a8)] := e ▸ h
theorem lines_43 : True := by
  k_with "own mine len" => first | omega | exact Nat.le_trans (putB_len _ _ _) (by omega) | exact Nat.le_trans (putB_len _ _ _) (Nat.succ_le_of_lt (Nat.lt_of_le_of_lt (putB_len _ _ _) (by omega)))
  k_with "own mine bits" => exact BitsAt.mk (News.get (by k_asm) (by k_mem)) (by assumption)
  trivial

theorem nin_cons {a x : Nat} {X : List Nat} (h : a ≠ x) (t : a ∉ X) : a ∉ x :: X := fun q => (List.mem_cons.mp q).elim h t
theorem lines_44 : True := by
  k_with "own mine notin" => first | exact List.not_mem_nil | (refine' nin_cons ?a_111 ?b_111; (case a_111 => omega); (case b_111 => walk_at "mine notin"))
  k_with "own mine fresh" => first | exact fresh_rest (by k_asm) (by k_mem) (fun p hp => off1_ne (by assumption) p (by repeat (first | assumption | refine List.Mem.tail _ ?_))) (by walk_at "mine notin") | exact fresh_rest (by k_asm) (by k_mem) (allLt_ne (And.right (by assumption))) (by walk_at "mine notin") | exact fresh_rest (by k_asm) (by k_mem) (allLt_ne (And.right (And.right (by assumption)))) (by walk_at "mine notin") | exact fresh_rest (by k_asm) (by k_mem) (allLt_ne (And.right (And.right (And.right (by assumption))))) (by walk_at "mine notin") | exact fresh_rest (by k_asm) (by k_mem) (allLt_ne (And.right (And.right (And.right (And.right (by assumption)))))) (by walk_at "mine notin") | exact fresh_rest (by k_asm) (by k_mem) (allLt_ne (And.right (And.right (And.right (And.right (And.right (by assumption))))))) (by walk_at "mine notin") | exact fresh_rest (by k_asm) (by k_mem) (allLt_ne (And.right (And.right (And.right (And.right (And.right (And.right (by assumption)))))))) (by walk_at "mine notin") | exact fresh_rest (by k_asm) (by k_mem) (allLt_ne (And.right (And.right (And.right (And.right (And.right (And.right (And.right (by assumption))))))))) (by walk_at "mine notin") | exact fresh_rest (by k_asm) (by k_mem) (allLt_ne (And.right (And.right (And.right (And.right (And.right (And.right (And.right (And.right (by assumption)))))))))) (by walk_at "mine notin") | exact fresh_rest (by k_asm) (by k_mem) (allLt_ne (And.right (And.right (And.right (And.right (And.right (And.right (And.right (And.right (And.right (by assumption))))))))))) (by walk_at "mine notin") | exact fresh_rest (by k_asm) (by k_mem) (allLt_ne (And.right (And.right (And.right (And.right (And.right (And.right (And.right (And.right (And.right (And.right (by assumption)))))))))))) (by walk_at "mine notin") | exact fresh_rest (by k_asm) (by k_mem) (allLt_ne (And.right (And.right (And.right (And.right (And.right (And.right (And.right (And.right (And.right (And.right (And.right (by assumption))))))))))))) (by walk_at "mine notin") | exact fresh_rest (by k_asm) (by k_mem) (allLt_ne (And.right (And.right (And.right (And.right (And.right (And.right (And.right (And.right (And.right (And.right (And.right (And.right (by assumption)))))))))))))) (by walk_at "mine notin") | exact fresh_rest (by k_asm) (by k_mem) (allLt_ne (And.right (And.right (And.right (And.right (And.right (And.right (And.right (And.right (And.right (And.right (And.right (And.right (And.right (by assumption))))))))))))))) (by walk_at "mine notin")
  k_with "own call ref" => (k_here; (with_reducible show wpAny _ _ (call (Value.ref 268) _) _ _ _); k_dflt (refine' Does.use (put_ok _ _ _ _ _ _) ?kB ?kF ?kX ?kT ?kk ?km_113 ?kp_113 ?kd ?ku ?_; walk_at "mine use"; (case kp_113 => exact ⟨by walk_at "mine bits", by walk_at "mine len"⟩); (case km_113 => walk_at "mine own"); walk_at "mine room"); intro r' h' tk' F' K' P'; obtain ⟨v', e', f', b'⟩ := P'; subst e'; walk_at "mine list"; clear f' b')
  trivial

section
local macro_rules | `(tactic| walk_at "isTrue BoolOp") => `(tactic| (k_here; with_reducible first | refine isTrue_or_nil ?_ | refine isTrue_or ?_))
set_option maxHeartbeats 2000000 in
theorem silent_ok (w : World) (d ov tv : Addr) (S : SS) :
    Does w 310 3 [.ref d] [ov, tv, d] [d] (fun h => StandAt w h d ov tv S ∧ S.own.length ≤ 20 ∧ S.theirs.length ≤ 20 ∧ ov ≠ tv) (fun h r h' => ∃ ov' tv', r = .none ∧ Fresh h ov' ∧ Fresh h tv' ∧ ov' ≠ tv' ∧ StandAt w h' d ov' tv' (silentS S)) := by
  have key : model PySem.Challenge.rw_xm0983_01.row.prog w = model PySem.Challenge.rw_xm0983_01.row.prog w → hd.heap_1 w.params = hd.heap_1 w.params →
      Does w 310 3 [.ref d] [ov, tv, d] [d] (fun h => StandAt w h d ov tv S ∧ S.own.length ≤ 20 ∧ S.theirs.length ≤ 20 ∧ ov ≠ tv) (fun h r h' => ∃ ov' tv', r = .none ∧ Fresh h ov' ∧ Fresh h tv' ∧ ov' ≠ tv' ∧ StandAt w h' d ov' tv' (silentS S)) := by
    k_fill
    intro _ _
    refine' does_of (binds := [(Str.ofString "stand", Value.ref d)]) ?up ?dn (by decide) ?ho ?hcd ?hb ?hl ?c1 ?c2 ?c3 ?c4 ?_
    case ho => k_is
    case hcd => k_is
    case hb => walk_at "mine hb"
    case hl => exact locs rfl
    case c1 => exact rfl
    case c2 => exact rfl
    case c3 => exact rfl
    case c4 => decide
    case up => exact fun h h' k p => ⟨p.1.up k, p.2⟩
    case dn => exact fun h h' r h'' k p => by obtain ⟨a, b, c, d, e, f⟩ := p; exact ⟨a, b, c, fresh_down k d, fresh_down k e, f⟩
    intro dp un gd outer A₀ base g L s Q E mean mg mb B F X T hmut hpre hd hu hret
    have AN : Anc g s.heap := ⟨fun b o e => F.keep b o e⟩
    have AK : Since [ov, tv, d] L s.heap s.heap := Since.refl
    obtain ⟨hstand, hl1, hl2, hne⟩ := hpre
    obtain @⟨sa, sb, own, who, theirs, sheard, sleft, schoice, ssend, sturn, o, sv, wv, s0, s1, s2, s3, vs, c, vs', c', hd0, hdict, isv, iwv, hov, iov, htv, itv⟩ := hstand
    replace hne := neN hne
    dsimp only at hl1 hl2
    have ne_ov_d := neN (at_ne hov hd0 (dictobj_ne' hdict (fun es n => dne0 rfl)))
    have ne_tv_d := neN (at_ne htv hd0 (dictobj_ne' hdict (fun es n => dne0 rfl)))
    have NT : NoTup s.heap [L, ov, tv, d] := Fr.noTup F (.cons hov list_noTup (.cons htv list_noTup (.cons hd0 (dictobj_noTup hdict) .nil)))
    have N : News g L s.heap ((ov, listOf vs.toArray c) :: (tv, listOf vs'.toArray c') :: (d, o) :: restOf g L s.heap [ov, tv, d]) := News.add (hmut ov (by k_mem)) hov (News.add (hmut tv (by k_mem)) htv (News.add (hmut d (by k_mem)) hd0 (rest_news)))
    with_reducible show wpAny _ _ _ _ _ _
    refine cut_at 2 (fun s' => Hold (∃ h tk o' t', s' = { s with heap := h, toks := tk } ∧ (sheard == Str.ofString "current") = false ∧ Fr g L h (fun y => List.lookup y [(Str.ofString "stand", Value.ref d)].reverse) ∧
      News g L h ((ov, listOf vs.toArray c) :: (tv, listOf vs'.toArray c') :: (d, o') :: restOf g L s.heap [ov, tv, d]) ∧ o'.IsDictOf (PySem.strKind PySem.Challenge.rw_xm0983_01.row.prog w) [(Str.ofString "system", .ref sv), (Str.ofString "own", .ref ov), (Str.ofString "who", .ref wv), (Str.ofString "theirs", .ref tv), (Str.ofString "heard", .str sheard s0), (Str.ofString "left", .int sleft s1), (Str.ofString "choice", .str (if !who.ends Z5 || !decide (64 ∈ own) then Str.ofString "unselected" else schoice) t'), (Str.ofString "send", .bool ssend), (Str.ofString "turn", .int sturn s3)])) ?C fun hC => ?_
    rotate_left
    · dsimp only [List.drop] at hC
      k_steps
      all_goals first
        | ((try dsimp only); refine hold ⟨_, _, _, _, rfl, by first | assumption | (simp_all; done), by k_asm, by first | k_asm | exact News.less (by k_asm) (by walk_at "mine sub"), dict_ch (by with_reducible assumption) ?_⟩; first | (simp [Z5, *]; done) | simp_all [Z5])
        | ((try dsimp only); refine hret _ _ _ _ (by k_asm) (since_cons htv (News.get (by k_asm) (by k_mem)) (since_cons hov (News.get (by k_asm) (by k_mem)) (by walk_at "mine kept"))) ?_; (refine' ⟨_, _, rfl, ?f1, ?f2, ?ne, StandAt.of ?st ?e⟩; (case st => walk_at "mine stand"); (case f1 => walk_at "mine fresh"); (case f2 => walk_at "mine fresh"); (case ne => k_ne); (case e => first | (simp [silentS, Z5, *]; done) | simp_all [silentS, Z5])))
    case C =>
      clear F N hdict
      intro s' hJ
      obtain ⟨h, tk, o, t2, rfl, hcur, F, N, hdict⟩ := Hold.out hJ
      dsimp only [List.drop]
      k_steps
      all_goals ((try dsimp only); refine hret _ _ _ _ (by k_asm) (since_cons htv (News.get (by k_asm) (by k_mem)) (since_cons hov (News.get (by k_asm) (by k_mem)) (by walk_at "mine kept"))) ?_; (refine' ⟨_, _, rfl, ?f1, ?f2, ?ne, StandAt.of ?st ?e⟩; (case st => walk_at "mine stand"); (case f1 => walk_at "mine fresh"); (case f2 => walk_at "mine fresh"); (case ne => k_ne); (case e => first | (simp [silentS, Z5, *]; done) | simp_all [silentS, Z5])))
  exact key rfl rfl

end
local macro_rules | `(tactic| walk_at "dummy12") => `(tactic| skip)
local macro_rules | `(tactic| walk_at "dummy13") => `(tactic| skip)

-- text M2
theorem text_M2 : True := by
  w_top off
  trivial
/-- the port is as the law reckons it -/
structure Match (P : PS) (S : SS) (num prio key : Int) : Prop where
  ea : P.A.a = S.sa
  eb : P.A.b = S.sb
  ec : P.A.c = key
  ed : P.A.d = prio
  ee : P.A.e = num
  s0 : 0 ≤ P.A.st
  s1 : P.A.st < 256
  own : S.own.Perm (bitsOf P.A.st)
  who : P.B.ends S.who = true
  t0 : 0 ≤ P.B.st
  t1 : P.B.st < 256
  theirs : S.theirs.Perm (bitsOf P.B.st)
  heard : P.heard = S.heard
  left : P.left = S.left
  choice : P.choice = S.choice
  send : P.send = S.send
  turn : P.turn = S.turn
  ok1 : PyData.strOk P.heard = true
  ok2 : PyData.strOk P.choice = true
  up : (P.heard == Str.ofString "disabled") = false

theorem ok_selected : PyData.strOk (Str.ofString "selected") = true := by decide +kernel
theorem ok_unselected : PyData.strOk (Str.ofString "unselected") = true := by decide +kernel
theorem ok_expired : PyData.strOk (Str.ofString "expired") = true := by decide +kernel
theorem ok_defaulted : PyData.strOk (Str.ofString "defaulted") = true := by decide +kernel
theorem ok_current : PyData.strOk (Str.ofString "current") = true := by decide +kernel
theorem up_expired : (Str.ofString "expired" == Str.ofString "disabled") = false := by decide +kernel
theorem up_defaulted : (Str.ofString "defaulted" == Str.ofString "disabled") = false := by decide +kernel
theorem up_current : (Str.ofString "current" == Str.ofString "disabled") = false := by decide +kernel
theorem perm_sum {l l' : List Int} (h : l.Perm l') : l.sum = l'.sum := by
  induction h with
  | nil => rfl
  | cons x _ ih => rw [List.sum_cons, List.sum_cons, ih]
  | swap x y l => rw [List.sum_cons, List.sum_cons, List.sum_cons, List.sum_cons]; omega
  | trans _ _ a b => exact a.trans b
theorem own_sum {st : Int} {l : List Int} (h : l.Perm (bitsOf st)) (h0 : 0 ≤ st) (h1 : st < 256) : l.sum = st := (perm_sum h).trans (bits_at h0 h1).1
theorem own_mem {st b : Int} {l : List Int} (h : l.Perm (bitsOf st)) (h0 : 0 ≤ st) (h1 : st < 256) (hb' : b ∈ allB) : decide (b ∈ l) = hb st b := by
  rw [← (bits_at h0 h1).2.1 b hb']
  exact decide_eq_decide.mpr h.mem_iff
theorem own_len {st : Int} {l : List Int} (h : l.Perm (bitsOf st)) : l.length ≤ 8 := by
  rw [h.length_eq]
  exact List.length_filter_le _ _
theorem perm_put {l l' : List Int} (h : l.Perm l') (b : Int) (z : Bool) : (putB l b z).Perm (putB l' b z) := (h.filter _).append_right _
theorem own_put {st b : Int} {l : List Int} (h : l.Perm (bitsOf st)) (h0 : 0 ≤ st) (h1 : st < 256) (hb' : b ∈ allB) (z : Bool) : (putB l b z).Perm (bitsOf (wb st b z)) ∧ 0 ≤ wb st b z ∧ wb st b z < 256 :=
  have q := put_at h0 h1 hb' z
  ⟨(perm_put h b z).trans q.1, q.2⟩
theorem ends_put (I J : Info) (b : Int) (z : Bool) : (I.put b z).ends J = I.ends J := rfl
theorem Match.put {P : PS} {S : SS} {num prio key b : Int} (m : Match P S num prio key) (hb' : b ∈ allB) (z : Bool) :
    Match ⟨P.row, P.A.put b z, P.B, P.heard, P.left, P.choice, P.turn, P.send⟩ ⟨S.sa, S.sb, putB S.own b z, S.who, S.theirs, S.heard, S.left, S.choice, S.send, S.turn⟩ num prio key := by
  obtain ⟨q1, q2, q3⟩ := own_put m.own m.s0 m.s1 hb' z
  exact ⟨m.ea, m.eb, m.ec, m.ed, m.ee, q2, q3, q1, m.who, m.t0, m.t1, m.theirs, m.heard, m.left, m.choice, m.send, m.turn, m.ok1, m.ok2, m.up⟩
theorem Match.quiet {P : PS} {S : SS} {num prio key : Int} (m : Match P S num prio key) :
    Match ⟨P.row, P.A, P.B, P.heard, P.left, P.choice, 5, false⟩ ⟨S.sa, S.sb, S.own, S.who, S.theirs, S.heard, S.left, S.choice, false, 5⟩ num prio key :=
  ⟨m.ea, m.eb, m.ec, m.ed, m.ee, m.s0, m.s1, m.own, m.who, m.t0, m.t1, m.theirs, m.heard, m.left, m.choice, rfl, rfl, m.ok1, m.ok2, m.up⟩
theorem Match.chosen {P : PS} {S : SS} {num prio key : Int} (m : Match P S num prio key) :
    Match ⟨P.row, P.A, P.B, P.heard, P.left, Str.ofString "selected", P.turn, P.send⟩ ⟨S.sa, S.sb, S.own, S.who, S.theirs, S.heard, S.left, Str.ofString "selected", S.send, S.turn⟩ num prio key :=
  ⟨m.ea, m.eb, m.ec, m.ed, m.ee, m.s0, m.s1, m.own, m.who, m.t0, m.t1, m.theirs, m.heard, m.left, rfl, m.send, m.turn, m.ok1, ok_selected, m.up⟩
theorem bits56 : [8, 16, 32].Perm (bitsOf 56) := by decide +kernel
theorem ends_iff {I J : Info} : I.ends J = true ↔ I.a = J.a ∧ I.b = J.b ∧ I.c = J.c ∧ I.d = J.d ∧ I.e = J.e := decide_eq_true_iff
theorem ends_trans {I J K : Info} (h : I.ends J = true) : I.ends K = J.ends K := by
  obtain ⟨a, b, c, d, e⟩ := ends_iff.mp h
  unfold Info.ends
  rw [a, b, c, d, e]
theorem ends_trans' {I J K : Info} (h : I.ends J = true) : K.ends I = K.ends J := by
  obtain ⟨a, b, c, d, e⟩ := ends_iff.mp h
  unfold Info.ends
  rw [a, b, c, d, e]
theorem Match.silent {P : PS} {S : SS} {num prio key : Int} (m : Match P S num prio key) : Match (silentP P) (silentS S) num prio key := by
  have h64 := own_mem m.own m.s0 m.s1 (b := 64) (by decide)
  unfold silentP silentS
  rw [m.heard]
  split
  · obtain ⟨q1, q2, q3⟩ := own_put m.own m.s0 m.s1 (b := 128) (by decide) true
    obtain ⟨p1, p2, p3⟩ := own_put m.theirs m.t0 m.t1 (b := 8) (by decide) false
    obtain ⟨r1, r2, r3⟩ := own_put p1 p2 p3 (b := 2) (by decide) true
    have h2 : hb (wb (wb P.B.st 8 false) 2 true) 2 = true := by
      rw [← own_mem r1 r2 r3 (by decide)]
      simp [putB]
    exact ⟨m.ea, m.eb, m.ec, m.ed, m.ee, q2, q3, q1, m.who, r2, r3, r1, rfl, rfl, m.choice, rfl, if_pos h2, ok_expired, m.ok2, up_expired⟩
  · obtain ⟨q1, q2, q3⟩ := own_put m.own m.s0 m.s1 (b := 128) (by decide) false
    obtain ⟨r1, r2, r3⟩ := own_put q1 q2 q3 (b := 64) (by decide) true
    refine ⟨m.ea, m.eb, m.ec, m.ed, m.ee, r2, r3, r1, rfl, (show (0 : Int) ≤ 56 by decide), (show (56 : Int) < 256 by decide), bits56, rfl, m.left, ?_, m.send, m.turn, ok_defaulted, ?_, up_defaulted⟩
    · show (if !P.B.ends NB || !hb P.A.st 64 then _ else _) = (if !S.who.ends Z5 || !decide (64 ∈ S.own) then _ else _)
      rw [h64, ends_trans m.who, m.choice]
      rfl
    · show PyData.strOk (if _ then _ else _) = true
      split
      · exact ok_unselected
      · exact m.ok2
def hearS (S : SS) (DA : Info) (same known there : Bool) : SS :=
  ⟨S.sa, S.sb, putB (putB S.own 64 false) 128 false, ⟨DA.a, DA.b, DA.c, DA.d, DA.e, 0⟩, putB (bitsOf DA.st) 8 there, Str.ofString "current", if decide (2 ∈ putB (putB S.own 64 false) 128 false) then 3 else 90,
    if same && !decide (64 ∈ S.own) then Str.ofString "selected" else Str.ofString "unselected",
    (!decide (2 ∈ S.theirs) && decide (2 ∈ putB (bitsOf DA.st) 8 there)) || !known,
    if !decide (2 ∈ S.theirs) && decide (2 ∈ putB (bitsOf DA.st) 8 there) then 0 else S.turn⟩
theorem Match.hear {P : PS} {S : SS} {num prio key : Int} (m : Match P S num prio key) {DA DB : Info} {z : Bool} (d0 : 0 ≤ DA.st) (d1 : DA.st < 256) (hs : P.send = false) (hc : P.choice = Str.ofString "selected")
    (hz : (z && !hb P.A.st 64) = (DA.same P.B && !hb P.A.st 64)) : Match (hearP P DA DB) (hearS S DA z (knowsI P.A DB) (stepI P.A DA DB)) num prio key := by
  obtain ⟨q1, q2, q3⟩ := own_put m.own m.s0 m.s1 (b := 64) (by decide) false
  obtain ⟨r1, r2, r3⟩ := own_put q1 q2 q3 (b := 128) (by decide) false
  obtain ⟨p1, p2, p3⟩ := own_put (List.Perm.refl (bitsOf DA.st)) d0 d1 (b := 8) (by decide) (stepI P.A DA DB)
  have h64 := own_mem m.own m.s0 m.s1 (b := 64) (by decide)
  have h2 := own_mem r1 r2 r3 (b := 2) (by decide)
  have g2 := own_mem m.theirs m.t0 m.t1 (b := 2) (by decide)
  have k2 := own_mem p1 p2 p3 (b := 2) (by decide)
  refine ⟨m.ea, m.eb, m.ec, m.ed, m.ee, r2, r3, r1, ends_self _, p2, p3, p1, rfl, ?_, ?_, ?_, ?_, ok_current, ?_, up_current⟩
  · show (if hb (wb (wb P.A.st 64 false) 128 false) 2 then _ else _) = (if decide (2 ∈ putB (putB S.own 64 false) 128 false) then _ else _)
    rw [h2]
  · show (if !DA.same P.B || hb P.A.st 64 then _ else _) = (if z && !decide (64 ∈ S.own) then _ else _)
    rw [h64, hz, hc]
    cases DA.same P.B <;> cases hb P.A.st 64 <;> rfl
  · show ((!hb P.B.st 2 && hb (wb DA.st 8 (stepI P.A DA DB)) 2) || !knowsI P.A DB || P.send) = ((!decide (2 ∈ S.theirs) && decide (2 ∈ putB (bitsOf DA.st) 8 (stepI P.A DA DB))) || !knowsI P.A DB)
    rw [g2, k2, hs, Bool.or_false]
  · show (if !hb P.B.st 2 && hb (wb DA.st 8 (stepI P.A DA DB)) 2 then _ else _) = (if !decide (2 ∈ S.theirs) && decide (2 ∈ putB (bitsOf DA.st) 8 (stepI P.A DA DB)) then _ else _)
    rw [g2, k2, m.turn]
  · show PyData.strOk (if !DA.same P.B || hb P.A.st 64 then _ else _) = true
    rw [hc]
    split
    · exact ok_unselected
    · exact ok_selected
theorem hb_bits {st : Int} (h0 : 0 ≤ st) (h1 : st < 256) {b : Int} (hb' : b ∈ allB) : decide (b ∈ bitsOf st) = hb st b := (bits_at h0 h1).2.1 b hb'
theorem near_knows {I J : Info} {z : Bool} {b : Int} (n : Near I J z b) (h0 : 0 ≤ I.st) (h1 : I.st < 256) : knowsI I J = (z && !decide (b ∈ [1, 2, 4, 8])) := by
  cases n with
  | other e1 e2 e3 => unfold knowsI; rw [e2]; rfl
  | same => unfold knowsI; rw [ends_self, (bits_at h0 h1).2.2]; decide
  | bit hb' =>
    unfold knowsI
    rw [show Info.ends ⟨I.a, I.b, I.c, I.d, I.e, flip I.st b⟩ I = true from ends_self I, (flip_at h0 h1 hb').2.2.2]
theorem near_step {I J D : Info} {z : Bool} {b : Int} {own : List Int} (n : Near I J z b) (h0 : 0 ≤ I.st) (h1 : I.st < 256) (d0 : 0 ≤ D.st) (d1 : D.st < 256) (ho : own.Perm (bitsOf I.st)) :
    stepI I D J = (decide (8 ∈ bitsOf D.st) && (decide (1 ∈ bitsOf D.st) || (decide (1 ∈ own) && decide (1 ∈ bitsOf J.st))) && ((z && b != 4) || !decide (4 ∈ bitsOf D.st))) := by
  obtain ⟨j0, j1⟩ := near_bounds n h0 h1
  rw [hb_bits d0 d1 (by decide), hb_bits d0 d1 (by decide), hb_bits d0 d1 (by decide), hb_bits j0 j1 (by decide), own_mem ho h0 h1 (by decide)]
  unfold stepI
  rw [(near_same n h0 h1).2]
/-- at the start -/
def startBits (za zs zm : Bool) : List Int := ((if za then [1] else []) ++ (if zs then [2] else []) ++ (if zm then [4] else [])) ++ [64, 128]
theorem start_bits : ∀ za zs zm : Bool, (startBits za zs zm).Perm (bitsOf (wb (Builtin.bitOr (rowBits za zs zm) 64) 128 true)) ∧ 0 ≤ wb (Builtin.bitOr (rowBits za zs zm) 64) 128 true ∧ wb (Builtin.bitOr (rowBits za zs zm) 64) 128 true < 256 := by decide +kernel
theorem start_theirs : [2, 16, 32].Perm (bitsOf (wb (wb 56 8 false) 2 true)) ∧ 0 ≤ wb (wb 56 8 false) 2 true ∧ wb (wb 56 8 false) 2 true < 256 ∧ (if hb (wb (wb 56 8 false) 2 true) 2 then (1 : Int) else 30) = 1 := by decide +kernel
theorem start_match {row : Addr} {sa sb num prio key : Int} (za zs zm : Bool) :
    Match (beginP ⟨row, ⟨sa, sb, key, prio, num, Builtin.bitOr (rowBits za zs zm) 64⟩, NB, Str.ofString "disabled", 0, Str.ofString "unselected", 0, false⟩)
      ⟨sa, sb, startBits za zs zm, Z5, [2, 16, 32], Str.ofString "expired", 3, Str.ofString "unselected", true, 1⟩ num prio key :=
  have a := start_bits za zs zm
  have b := start_theirs
  ⟨rfl, rfl, rfl, rfl, rfl, a.2.1, a.2.2, a.1, rfl, b.2.1, b.2.2.1, b.1, rfl, rfl, rfl, rfl, (by unfold beginP; dsimp only [Info.put, NB]; exact b.2.2.2), ok_expired, ok_unselected, up_expired⟩
theorem Match.of {P P' : PS} {S S' : SS} {num prio key : Int} (m : Match P S num prio key) (e : P = P') (e2 : S = S') : Match P' S' num prio key := e ▸ e2 ▸ m
structure MHear (P : PS) (S : SS) (D : Info) (z : Bool) (num prio key : Int) : Prop where
  get : ∀ J, Match (hearP P D J) (hearS S D z (knowsI P.A J) (stepI P.A D J)) num prio key

-- text C11
theorem text_C11 : True := by
  w_top off
  trivial

section
variable {prog : Program} {w : World} {A : Around} {E : Value → Shared → Prop} {s : Shared} {h₀ hk : Heap} {L v u : Addr} {m : Str → Option Value} {news : List (Addr × Obj)} {I J I' J' : Info} {x y x' y' : Str} {Q : Value → Shared → Prop}
theorem four_reads {h : Heap} {v a b : Addr} {t t' : Tok} {n : Nat} (q : h.get? v = some (tupO [.ref a, .ref b, .str x t, .str y t'] n)) (i : InfoAt h a I) (j : InfoAt h b J) :
    Reads h (.ref v) (.tuple [.tuple [.tuple [.int I.a, .int I.b], .int I.c, .tuple [.int I.d, .int I.e], .int I.st], .tuple [.tuple [.int J.a, .int J.b], .int J.c, .tuple [.int J.d, .int J.e], .int J.st], .str x, .str y]) [] :=
  .tuple (as := [] ++ ([] ++ ([] ++ ([] ++ [])))) q rfl rfl (.cons (info_reads i) (.cons (info_reads j) (.cons (.str _ _) (.cons (.str _ _) .nil))))
theorem ne_four {a b a' b' : Addr} {t1 t2 t3 t4 : Tok} {n n' : Nat} (q : s.heap.get? v = some (tupO [.ref a, .ref b, .str x t1, .str y t2] n)) (i : InfoAt s.heap a I) (j : InfoAt s.heap b J)
    (q' : s.heap.get? u = some (tupO [.ref a', .ref b', .str x' t3, .str y' t4] n')) (i' : InfoAt s.heap a' I') (j' : InfoAt s.heap b' J') (hu : A.units + 64 < cLine) (ox : PyData.strOk x = true) (oy : PyData.strOk y = true) (ox' : PyData.strOk x' = true) (oy' : PyData.strOk y' = true)
    (h : Q (.bool (!(decide (I = I') && decide (J = J') && (x == x') && (y == y')))) s) : wpAny (model prog w) A (compareOp .NotEq (.ref v) (.ref u)) Q E s :=
  ne_dataH (four_reads q i j) (four_reads q' i' j') (by simp [SeqAt.shaped, PyData.canLay0, PyData.canLayAll0, PyData.depth, PyData.depthAll, ox, oy]) (by simp [SeqAt.shaped, PyData.canLay0, PyData.canLayAll0, PyData.depth, PyData.depthAll, ox', oy']) hu (by
    have e1 := eqv_info I I'
    have e2 := eqv_info J J'
    simp only [PyData.eqv, PyData.eqvAll] at e1 e2 ⊢
    rw [e1, e2]
    simpa only [Bool.and_true, Bool.and_assoc] using h)
theorem two_reads {h : Heap} {v : Addr} {a b : Bool} (q : TupAt h v [.bool a, .bool b]) : Reads h (.ref v) (.tuple [.bool a, .bool b]) [] := by
  obtain ⟨n, q⟩ := q
  exact .tuple (as := [] ++ ([] ++ [])) q rfl rfl (.cons (.bool _) (.cons (.bool _) .nil))
theorem ne_two {a b a' b' : Bool} (q : TupAt s.heap v [.bool a, .bool b]) (q' : TupAt s.heap u [.bool a', .bool b']) (hu : A.units + 64 < cLine) (h : Q (.bool (!((a == a') && (b == b')))) s) : wpAny (model prog w) A (compareOp .NotEq (.ref v) (.ref u)) Q E s :=
  ne_dataH (two_reads q) (two_reads q') rfl rfl hu (by simpa only [PyData.eqv, PyData.eqvAll, Bool.and_true] using h)
theorem tri_add {D : Addr} {x : Int} {t : Tok} {n : Nat} (F : Fr h₀ L s.heap m) (N : News h₀ L s.heap news) (hT : TriAt hk v I) (kt : KeepT hk s.heap) (hD : (D, tupO [.int x t] n) ∈ news)
    (h : ∀ D' h' sa ea u, Fr h₀ L h' m → News h₀ L h' ((D', tupO [.ref sa, .int I.c u, .ref ea, .int x t] 0) :: news) → (∀ p ∈ news, p.1 < D') → PairAt hk sa I.a I.b → PairAt hk ea I.d I.e → Q (.ref D') { s with heap := h' }) :
    wpAny (model prog w) A (binaryOp .Add (.ref v) (.ref D)) Q E s := by
  obtain ⟨sa, ea, u, k, q, p1, p2⟩ := hT
  exact add_tuples F N (tup_isTup (kt.get _ _ _ q)) (tup_isTup (N _ hD).1) (fun e => nomatch e) (fun _ e => nomatch e) (fun _ _ h' F' N' => h _ h' sa ea u F' N' (fun p hp => Heap.lt_size (N p hp).1) p1 p2) (by rw [sizeLine_eq]; exact Nat.le_of_ble_eq_true rfl)
end
theorem match_1 {P : PS} {S : SS} {num prio key : Int} (M : Match P S num prio key) : (decide (P.A = ⟨S.sa, S.sb, key, prio, num, S.own.sum⟩) && decide (P.B = ⟨S.who.a, S.who.b, S.who.c, S.who.d, S.who.e, S.theirs.sum⟩) && P.heard == S.heard && P.choice == S.choice) = true := by
  have e1 : P.A = ⟨S.sa, S.sb, key, prio, num, S.own.sum⟩ := by rw [own_sum M.own M.s0 M.s1, ← M.ea, ← M.eb, ← M.ec, ← M.ed, ← M.ee]
  have e2 : P.B = ⟨S.who.a, S.who.b, S.who.c, S.who.d, S.who.e, S.theirs.sum⟩ := by
    obtain ⟨a, b, c, d, e⟩ := ends_iff.mp M.who
    rw [own_sum M.theirs M.t0 M.t1, ← a, ← b, ← c, ← d, ← e]
  rw [decide_eq_true e1, decide_eq_true e2, M.heard, M.choice, beq_self_eq_true, beq_self_eq_true]
  rfl
theorem match_2 {P : PS} {S : SS} {num prio key : Int} (M : Match P S num prio key) : (P.left == S.left && (P.send == S.send && P.turn == S.turn)) = true := by
  rw [M.left, M.send, M.turn, beq_self_eq_true, beq_self_eq_true, beq_self_eq_true]
  rfl
theorem match_3 {P : PS} {S : SS} {num prio key : Int} (M : Match P S num prio key) : (hb P.A.st 64 == decide (64 ∈ S.own) && hb P.A.st 128 == decide (128 ∈ S.own)) = true := by
  rw [own_mem M.own M.s0 M.s1 (by decide), own_mem M.own M.s0 M.s1 (by decide), beq_self_eq_true, beq_self_eq_true]
  rfl
theorem match_4 {P : PS} {S : SS} {num prio key : Int} (M : Match P S num prio key) : decide (2 ∈ S.own) = hb P.A.st 2 := own_mem M.own M.s0 M.s1 (by decide)
theorem lines_45 : True := by
  k_with "own compareOp NotEq ref ref" => (k_here; k_dflt (refine' ne_two ?q_114 ?r_114 ?u_114 ?_; (case q_114 => (refine' KeepT.tup ?kt_114 ?hi_114; (case hi_114 => assumption); (case kt_114 => walk_at "mine keepT"))); (case r_114 => exact TupAt.mk _ (News.get (by k_asm) (by k_mem))); (case u_114 => walk_at "mine units")))
  k_with "own binaryOp Add ref ref" => (k_here; k_dflt (refine' tri_add ?F_115 ?N_115 ?i_115 ?kt_115 ?d_115 ?_; (case F_115 => k_asm); (case N_115 => k_asm); (case i_115 => assumption); (case kt_115 => walk_at "mine keepT"); (case d_115 => k_mem)); intro D' h' sa' ea' u' F' N' l1 pa' pb'; (try k_lt l1); (try k_sweep))
  k_with "own compareOp NotEq ref ref" => (k_here; k_dflt (refine' ne_four ?q_116 ?p1_116 ?p2_116 ?r_116 ?p3_116 ?p4_116 ?u_116 ?o1_116 ?o2_116 ?o3_116 ?o4_116 ?_; (case q_116 => walk_at "mine at"); (case p1_116 => walk_at "mine info"); (case p2_116 => walk_at "mine info"); (case r_116 => walk_at "mine at"); (case p3_116 => first | walk_at "mine newinfo" | walk_at "mine info"); (case p4_116 => first | walk_at "mine newinfo" | walk_at "mine info"); (case u_116 => walk_at "mine units"); (case o1_116 => assumption); (case o2_116 => assumption); (case o3_116 => assumption); (case o4_116 => assumption)))
  trivial

set_option maxHeartbeats 2000000 in
theorem alike_ok (w : World) (p dx r' dr d ov tv : Addr) (P : PS) (S : SS) (num prio key : Int) (za zs zm : Bool) :
    Does w 303 4 [.ref p, .ref d] [p, dx, r', dr, ov, tv, d] [] (fun h => PortAt w h p dx P ∧ StandAt w h d ov tv S ∧ RowAt w h r' dr num prio key za zs zm ∧ P.row = r' ∧ Match P S num prio key) (fun h r h' => r = .bool true) := by
  have key : model PySem.Challenge.rw_xm0983_01.row.prog w = model PySem.Challenge.rw_xm0983_01.row.prog w → hd.heap_1 w.params = hd.heap_1 w.params →
      Does w 303 4 [.ref p, .ref d] [p, dx, r', dr, ov, tv, d] [] (fun h => PortAt w h p dx P ∧ StandAt w h d ov tv S ∧ RowAt w h r' dr num prio key za zs zm ∧ P.row = r' ∧ Match P S num prio key) (fun h r h' => r = .bool true) := by
    k_fill
    intro _ _
    refine' does_of (binds := [(Str.ofString "port", Value.ref p), (Str.ofString "stand", Value.ref d)]) ?up ?dn (by decide) ?ho ?hcd ?hb ?hl ?c1 ?c2 ?c3 ?c4 ?_
    case ho => k_is
    case hcd => k_is
    case hb => walk_at "mine hb"
    case hl => exact locs rfl
    case c1 => exact rfl
    case c2 => exact rfl
    case c3 => exact rfl
    case c4 => decide
    case up => exact fun h h' k p => ⟨p.1.up k, p.2.1.up k, p.2.2.1.up k, p.2.2.2⟩
    case dn => exact fun h h' r h'' k p => p
    intro dp un gd outer A₀ base g L s Q E mean mg mb B F X T hmut hpre hd hu hret
    have AN : Anc g s.heap := ⟨fun b o e => F.keep b o e⟩
    have AK : Since [p, dx, r', dr, ov, tv, d] L s.heap s.heap := Since.refl
    obtain ⟨hport, hstand, hrow, hrr, M⟩ := hpre
    obtain @⟨row, A, B, heard, left, choice, turn, send, es, av, pv, hp, hq, hpe, ia, ip⟩ := hport
    obtain @⟨sa, sb, own, who, theirs, sheard, sleft, schoice, ssend, sturn, o, sv, wv, s0, s1, s2, s3, vs, c, vs', c', hd0, hdict, isv, iwv, hov, iov, htv, itv⟩ := hstand
    obtain @⟨q0, q1, q2, q3, q4, q5, r0, r1, r2, hr, hdr⟩ := hrow
    have hlen := own_len M.own
    have hlen2 := own_len M.theirs
    have oh1 := M.ok1
    have oh2 := M.ok2
    have oh3 := M.heard ▸ M.ok1
    have oh4 := M.choice ▸ M.ok2
    dsimp only at hrr hlen hlen2 oh1 oh2 oh3 oh4
    subst hrr
    have NT : NoTup s.heap [L, p, dx, row, dr, ov, tv, d] := Fr.noTup F (.cons hp inst_noTup (.cons hq dict_noTup (.cons hr inst_noTup (.cons hdr dict_noTup (.cons hov list_noTup (.cons htv list_noTup (.cons hd0 (dictobj_noTup hdict) .nil)))))))
    have N : News g L s.heap ((p, instObj 190 dx) :: (dx, dictOf es 12) :: (row, instObj 99 dr) :: (dr, dictOf [⟨PyData.keyHash w.params (Str.ofString "number"), .str (Str.ofString "number") q0, .int num r0⟩, ⟨PyData.keyHash w.params (Str.ofString "priority"), .str (Str.ofString "priority") q1, .int prio r1⟩, ⟨PyData.keyHash w.params (Str.ofString "key"), .str (Str.ofString "key") q2, .int key r2⟩, ⟨PyData.keyHash w.params (Str.ofString "is_active"), .str (Str.ofString "is_active") q3, .bool za⟩, ⟨PyData.keyHash w.params (Str.ofString "is_short"), .str (Str.ofString "is_short") q4, .bool zs⟩, ⟨PyData.keyHash w.params (Str.ofString "may_join"), .str (Str.ofString "may_join") q5, .bool zm⟩] 6) :: (ov, listOf vs.toArray c) :: (tv, listOf vs'.toArray c') :: (d, o) :: restOf g L s.heap [p, dx, row, dr, ov, tv, d]) := News.add (hmut p (by k_mem)) hp (News.add (hmut dx (by k_mem)) hq (News.add (hmut row (by k_mem)) hr (News.add (hmut dr (by k_mem)) hdr (News.add (hmut ov (by k_mem)) hov (News.add (hmut tv (by k_mem)) htv (News.add (hmut d (by k_mem)) hd0 (rest_news)))))))
    with_reducible show wpAny _ _ _ _ _ _
    k_steps
    all_goals (try dsimp only)
    all_goals refine hret _ _ _ _ (by k_asm) (since_cons hd0 (News.get (by k_asm) (by k_mem)) (since_cons htv (News.get (by k_asm) (by k_mem)) (since_cons hov (News.get (by k_asm) (by k_mem)) (since_cons hdr (News.get (by k_asm) (by k_mem)) (since_cons hr (News.get (by k_asm) (by k_mem)) (since_cons hq (News.get (by k_asm) (by k_mem)) (since_cons hp (News.get (by k_asm) (by k_mem)) (by walk_at "mine kept")))))))) ?_
    all_goals first
      | (exfalso; exact Bool.noConfusion ((match_1 M).symm.trans (by assumption)))
      | (exfalso; exact Bool.noConfusion ((match_2 M).symm.trans (by assumption)))
      | (exfalso; exact Bool.noConfusion ((match_3 M).symm.trans (by assumption)))
      | (have h2 := match_4 M; (try dsimp only at h2); simp only [h2]; cases hb A.st 2 <;> rfl; done)
      | (have h2 : hb A.st 2 = true := (match_4 M).symm.trans (decide_eq_true (by assumption)); rw [h2]; rfl)
      | (have h2 : hb A.st 2 = false := (match_4 M).symm.trans (decide_eq_false (by assumption)); rw [h2]; rfl)
  exact key rfl rfl

theorem lines_46 : True := by
  k_with "own call ref" => (k_here; (with_reducible show wpAny _ _ (call (Value.ref 303) _) _ _ _); k_dflt (refine' Does.use (alike_ok _ _ _ _ _ _ _ _ _ _ _ _ _ _ _ _) ?kB ?kF ?kX ?kT ?kk ?km_117 ?kp_117 ?kd ?ku ?_; walk_at "mine use"; (case kp_117 => exact ⟨by walk_at "mine port", by walk_at "mine stand", by walk_at "mine row", rfl, by walk_at "mine match"⟩); (case km_117 => walk_at "mine own"); walk_at "mine room"); intro r' h' tk' F' K' P'; walk_at "mine after"; (try dsimp only at P'); subst P')
  trivial

-- text C12
theorem text_C12 : True := by
  w_top off
  trivial

theorem rest_of_fresh {g h : Heap} {L x : Addr} {m : Str → Option Value} {o : Obj} {h' : Heap} (F : Fr g L h m) (f : Fresh h x) (e : h'.get? x = some o) : NewAt g L h' x := by
  refine ⟨?_, ?_, _, e⟩
  · intro q
    obtain ⟨o, _, _, ho, _⟩ := F.ns
    rw [← q, f] at ho
    cases ho
  · cases q : g.get? x with
    | none => rfl
    | some o => have := F.keep _ _ q; rw [f] at this; cases this
def Off2 (x : Addr) : List (Addr × Obj) → Prop
  | [] => True
  | p :: r => (@Ne Nat p.1 x) ∧ Off2 x r
theorem off2_fresh {g h : Heap} {L v : Addr} (f : Fresh h v) : ∀ {l : List (Addr × Obj)}, News g L h l → Off2 v l
  | [], _ => trivial
  | p :: r, N => ⟨fun e => (by have := (N p (.head _)).1; rw [show p.1 = v from e, f] at this; cases this), off2_fresh f fun q hq => N q (.tail _ hq)⟩
theorem Off2.ne {x a : Addr} {o : Obj} : ∀ {l : List (Addr × Obj)}, Off2 x l → (a, o) ∈ l → @Ne Nat a x
  | _ :: _, h, m => by
    rcases List.mem_cons.mp m with e | m
    · have := h.1; rw [← e] at this; exact this
    · exact Off2.ne h.2 m
/-- what was not there before a call was not there at the start -/
theorem fresh_since {X : List Addr} {g s0 h1 : Heap} {L x : Addr} {m : Str → Option Value} (F : Fr g L h1 m) (S : Since X L s0 h1) (Z : NoTup h1 X) (f : Fresh h1 x) : Fresh s0 x := by
  unfold Fresh at *
  cases q : s0.get? x with
  | none => rfl
  | some o =>
    have hL : x ≠ L := fun e => by
      obtain ⟨o, _, _, ho, _⟩ := F.ns
      rw [← e, f] at ho
      cases ho
    have hX : x ∉ X := fun e => by
      obtain ⟨o, ho, _⟩ := Z.get x e
      rw [f] at ho
      cases ho
    rw [S.get x o q hL hX] at f
    cases f
theorem made_k {P : Prop} {g h' : Heap} {L x xd : Addr} {l' : List (Addr × Obj)} {ox od : Obj} (n1 : NewAt g L h' x) (n2 : NewAt g L h' xd) (e : h'.get? x = some ox) (ed : h'.get? xd = some od) (N : News g L h' l')
    (k : News g L h' ((x, ox) :: (xd, od) :: l') → P) : P := k (News.add n1 e (News.add n2 ed N))
theorem TupAt.eq2 {h : Heap} {u x : Addr} {a b a' b' : Bool} (t : TupAt h u [.ref x, .bool a, .bool b]) (e : a = a') (e2 : b = b') : TupAt h u [.ref x, .bool a', .bool b'] := e ▸ e2 ▸ t
theorem lines_47 : True := by
  k_with "own mine clearne" => (repeat ((with_reducible rename (@Ne Nat _ _) => hq); clear hq))
  trivial

local macro_rules | `(tactic| k_ne) => `(tactic| (refine neN ?_; (try dsimp only); first | (with_reducible assumption) | exact Ne.symm (by with_reducible assumption) | exact Off2.ne (by with_reducible assumption) (by k_mem) | exact Ne.symm (Off2.ne (by with_reducible assumption) (by k_mem)) | (walk_at "mine clearne"; omega)))
theorem off_both {D : Addr} : ∀ {l : List (Addr × Obj)}, LCg.Off1 D l → Off2 D l
  | [], _ => trivial
  | _ :: _, h => ⟨h.1, off_both h.2⟩
theorem lines_48 : True := by
  k_with "own mine list" => ((with_reducible rename Keep _ _ _ _ => kK); refine' after_list kK ?kF ?kN_119 ?kR_119 ?kf_119 ?kb_119 ?_; (case kN_119 => k_asm); (case kF => k_asm); (case kR_119 => walk_at "mine re"); (case kf_119 => assumption); (case kb_119 => assumption); intro vs' c' N' i' o'; have o2' := off_both o'; clear kK; (try k_sweep))
  k_with "own mine notin" => first | exact List.not_mem_nil | (refine' nin_cons ?a_120 ?b_120; (case a_120 => k_ne); (case b_120 => walk_at "mine notin"))
  k_with "own mine neall" => first | exact List.forall_mem_nil _ | (refine' List.forall_mem_cons.mpr ⟨?a_121, ?b_121⟩; (case a_121 => k_ne); (case b_121 => walk_at "mine neall"))
  k_with "own mine pdu" => exact PduAt.mk (News.get (by k_asm) (by k_mem)) (News.get (by k_asm) (by k_mem)) (by walk_at "mine info") (by walk_at "mine info")
  k_with "own call ref" => (k_here; (with_reducible show wpAny _ _ (call (Value.ref 49) _) _ _ _); k_dflt (refine' Does.use (pdu_ok _ _ _ _ _) ?kB ?kF ?kX ?kT ?kk ?km_123 ?kp_123 ?kd ?ku ?_; walk_at "mine use"; (case kp_123 => exact ⟨by walk_at "mine info", by walk_at "mine info"⟩); (case km_123 => walk_at "mine own"); walk_at "mine room"); intro r' h' tk' F' K' P'; obtain ⟨x', xd', e', fx', fd', pd'⟩ := P'; subst e'; obtain @⟨j0', j1', j2', ua', ub', y', hx', hz', ja', jb'⟩ := pd'; have fr1' := fresh_since (by k_asm) (by walk_at "mine kept") (by walk_at "mine notup") fx'; have fr2' := fresh_since (by k_asm) (by walk_at "mine kept") (by walk_at "mine notup") fd'; have nw1' := rest_of_fresh (by k_asm) fx' hx'; have nw2' := rest_of_fresh (by k_asm) fd' hz'; have nx' := neN (at_ne hx' hz' (dne rfl)); have of1' := off2_fresh fx' (by k_asm); have of2' := off2_fresh fd' (by k_asm); walk_at "mine anew"; (rename News _ _ _ _ => kNm); refine made_k nw1' nw2' hx' hz' kNm ?_; clear fx' fd' kNm; intro kNm; (try k_sweep))
  trivial

set_option maxHeartbeats 2000000 in
theorem message_ok (w : World) (src p dx d ov tv pa : Addr) (P : PS) (S : SS) (D : Info) :
    Does w 296 5 [.ref src, .ref p, .ref d, .ref pa] [p, ov, tv, dx, d, src] [src] (fun h => SrcAt h src ∧ PortAt w h p dx P ∧ StandAt w h d ov tv S ∧ InfoAt h pa D ∧ (0 ≤ P.A.st ∧ P.A.st < 256 ∧ 0 ≤ D.st ∧ D.st < 256 ∧ S.own.Perm (bitsOf P.A.st) ∧ d ≠ dx ∧ ov ≠ tv ∧ src ≠ ov ∧ src ≠ tv)) (fun h r h' => ∃ u x xd J, r = .ref u ∧ TupAt h' u [.ref x, .bool (knowsI P.A J), .bool (stepI P.A D J)] ∧ Fresh h x ∧ Fresh h xd ∧ PduAt w h' x xd D J ∧ SrcAt h' src) := by
  have key : model PySem.Challenge.rw_xm0983_01.row.prog w = model PySem.Challenge.rw_xm0983_01.row.prog w → hd.heap_1 w.params = hd.heap_1 w.params →
      Does w 296 5 [.ref src, .ref p, .ref d, .ref pa] [p, ov, tv, dx, d, src] [src] (fun h => SrcAt h src ∧ PortAt w h p dx P ∧ StandAt w h d ov tv S ∧ InfoAt h pa D ∧ (0 ≤ P.A.st ∧ P.A.st < 256 ∧ 0 ≤ D.st ∧ D.st < 256 ∧ S.own.Perm (bitsOf P.A.st) ∧ d ≠ dx ∧ ov ≠ tv ∧ src ≠ ov ∧ src ≠ tv)) (fun h r h' => ∃ u x xd J, r = .ref u ∧ TupAt h' u [.ref x, .bool (knowsI P.A J), .bool (stepI P.A D J)] ∧ Fresh h x ∧ Fresh h xd ∧ PduAt w h' x xd D J ∧ SrcAt h' src) := by
    k_fill
    intro _ _
    refine' does_of (binds := [(Str.ofString "source", Value.ref src), (Str.ofString "port", Value.ref p), (Str.ofString "stand", Value.ref d), (Str.ofString "partner", Value.ref pa)]) ?up ?dn (by decide) ?ho ?hcd ?hb ?hl ?c1 ?c2 ?c3 ?c4 ?_
    case ho => k_is
    case hcd => k_is
    case hb => walk_at "mine hb"
    case hl => exact locs rfl
    case c1 => exact rfl
    case c2 => exact rfl
    case c3 => exact rfl
    case c4 => decide
    case up => exact fun h h' k p => ⟨p.1.up k, p.2.1.up k, p.2.2.1.up k, all_info k p.2.2.2.1, p.2.2.2.2⟩
    case dn => exact fun h h' r h'' k p => by obtain ⟨u, x, xd, J, a, b, c, d, e⟩ := p; exact ⟨u, x, xd, J, a, b, fresh_down k c, fresh_down k d, e⟩
    intro dp un gd outer A₀ base g L s Q E mean mg mb B F X T hmut hpre hd hu hret
    have AN : Anc g s.heap := ⟨fun b o e => F.keep b o e⟩
    have AK : Since [p, ov, tv, dx, d, src] L s.heap s.heap := Since.refl
    obtain ⟨hsrc, hport, hstand, hI, st0, st1, dt0, dt1, hperm, hne1, hne2, hne3, hne4⟩ := hpre
    obtain @⟨n0, n1, u0, u1, c0, hs, g0, g1, g2⟩ := hsrc
    obtain @⟨row, A, B, heard, left, choice, turn, send, es, av, pv, hp, hq, hpe, ia, ip⟩ := hport
    obtain @⟨sa, sb, own, who, theirs, sheard, sleft, schoice, ssend, sturn, o, sv, wv, s0, s1, s2, s3, vs, c, vs', c', hd0, hdict, isv, iwv, hov, iov, htv, itv⟩ := hstand
    dsimp only at st0 st1 hperm
    replace hne1 := neN hne1
    replace hne2 := neN hne2
    replace hne3 := neN hne3
    replace hne4 := neN hne4
    have hlen := own_len hperm
    have ne_p_ov := neN (at_ne hp hov (dne rfl))
    have ne_p_tv := neN (at_ne hp htv (dne rfl))
    have ne_p_dx := neN (at_ne hp hq (dne rfl))
    have ne_p_d := neN (at_ne hp hd0 (dictobj_ne' hdict (fun es n => dne0 rfl)))
    have ne_p_src := neN (at_ne hp hs (dne rfl))
    have ne_ov_dx := neN (at_ne hov hq (dne rfl))
    have ne_ov_d := neN (at_ne hov hd0 (dictobj_ne' hdict (fun es n => dne0 rfl)))
    have ne_tv_dx := neN (at_ne htv hq (dne rfl))
    have ne_tv_d := neN (at_ne htv hd0 (dictobj_ne' hdict (fun es n => dne0 rfl)))
    have ne_dx_src := neN (at_ne hq hs (dne rfl))
    have ne_d_src := neN (at_ne hd0 hs (dictobj_ne hdict (fun es n => dne0 rfl)))
    have NT : NoTup s.heap [L, p, ov, tv, dx, d, src] := Fr.noTup F (.cons hp inst_noTup (.cons hov list_noTup (.cons htv list_noTup (.cons hq dict_noTup (.cons hd0 (dictobj_noTup hdict) (.cons hs list_noTup .nil))))))
    have N : News g L s.heap ((p, instObj 190 dx) :: (ov, listOf vs.toArray c) :: (tv, listOf vs'.toArray c') :: (dx, dictOf es 12) :: (d, o) :: (src, listOf #[.int n0 u0, .int n1 u1] c0) :: restOf g L s.heap [p, ov, tv, dx, d, src]) := News.add (hmut p (by k_mem)) hp (News.add (hmut ov (by k_mem)) hov (News.add (hmut tv (by k_mem)) htv (News.add (hmut dx (by k_mem)) hq (News.add (hmut d (by k_mem)) hd0 (News.add (hmut src (by k_mem)) hs (rest_news))))))
    with_reducible show wpAny _ _ _ _ _ _
    k_steps
    all_goals (try dsimp only)
    all_goals refine hret _ _ _ _ (by k_asm) (since_cons hd0 (News.get (by k_asm) (by k_mem)) (since_cons hq (News.get (by k_asm) (by k_mem)) (since_cons htv (News.get (by k_asm) (by k_mem)) (since_cons hov (News.get (by k_asm) (by k_mem)) (since_cons hp (News.get (by k_asm) (by k_mem)) (by walk_at "mine kept")))))) ?_
    all_goals (with_reducible rename Near _ _ _ _ => hn)
    all_goals (refine' ⟨_, _, _, _, rfl, TupAt.eq2 ?tu ?e1 ?e2, ?f1, ?f2, ?pd, ?sr⟩; (case tu => walk_at "mine tup"); (case pd => walk_at "mine pdu"); (case e1 => ((try dsimp only); rw [near_knows hn st0 st1]; rw [any_mem])); (case e2 => ((try dsimp only); rw [near_step hn st0 st1 dt0 dt1 hperm, Bool.and_assoc])); (case f1 => assumption); (case f2 => assumption); (case sr => walk_at "mine src"))
  exact key rfl rfl

-- text C13
theorem text_C13 : True := by
  w_top off
  trivial

/-- the row's dict, unseen -/
inductive RowD (w : World) (o : Obj) (num prio key : Int) (za zs zm : Bool) : Prop where
  | mk {q0 q1 q2 q3 q4 q5 r0 r1 r2 : Tok} : o = dictOf [⟨PyData.keyHash w.params (Str.ofString "number"), .str (Str.ofString "number") q0, .int num r0⟩, ⟨PyData.keyHash w.params (Str.ofString "priority"), .str (Str.ofString "priority") q1, .int prio r1⟩, ⟨PyData.keyHash w.params (Str.ofString "key"), .str (Str.ofString "key") q2, .int key r2⟩, ⟨PyData.keyHash w.params (Str.ofString "is_active"), .str (Str.ofString "is_active") q3, .bool za⟩, ⟨PyData.keyHash w.params (Str.ofString "is_short"), .str (Str.ofString "is_short") q4, .bool zs⟩, ⟨PyData.keyHash w.params (Str.ofString "may_join"), .str (Str.ofString "may_join") q5, .bool zm⟩] 6 → RowD w o num prio key za zs zm
section
variable {w : World} {h : Heap} {r dr : Addr} {o o' : Obj} {num prio key : Int} {za zs zm : Bool}
theorem RowAt.hide : RowAt w h r dr num prio key za zs zm → ∃ o, h.get? r = some (instObj 99 dr) ∧ h.get? dr = some o ∧ RowD w o num prio key za zs zm
  | .mk a b => ⟨_, a, b, .mk rfl⟩
theorem RowD.show (d : RowD w o num prio key za zs zm) (a : h.get? r = some (instObj 99 dr)) (b : h.get? dr = some o) : RowAt w h r dr num prio key za zs zm := by
  obtain ⟨rfl⟩ := d
  exact .mk a b
theorem RowD.noTup (d : RowD w o num prio key za zs zm) : ∀ vs k, o ≠ tupO vs k := by
  obtain ⟨rfl⟩ := d
  exact dict_noTup
theorem RowD.ne (d : RowD w o num prio key za zs zm) (n : ∀ es k, Data.dict es k ≠ o'.data) : o.data ≠ o'.data := by
  obtain ⟨rfl⟩ := d
  exact n _ _
theorem RowD.ne' (d : RowD w o num prio key za zs zm) (n : ∀ es k, Data.dict es k ≠ o'.data) : o'.data ≠ o.data := fun e => d.ne n e.symm
end
theorem lines_49 : True := by
  k_with "own mine row" => exact RowD.show (by with_reducible assumption) (News.get (by k_asm) (by k_mem)) (News.get (by k_asm) (by k_mem))
  k_with "own mine notup1" => exact RowD.noTup (by with_reducible assumption)
  trivial

theorem seg_nes {w : World} {h : Heap} {p dx row dr ov tv d src : Addr} {odr o : Obj} {vs vs' : List Value} {c c' c0 : Nat} {es : List DictEntry} {kvs : List (Str × Value)} {its : Array Value} {num prio key : Int} {za zs zm : Bool} {C : Prop}
    (hp : h.get? p = some (instObj 190 dx)) (hr : h.get? row = some (instObj 99 dr)) (hdr : h.get? dr = some odr) (hro : RowD w odr num prio key za zs zm) (hov : h.get? ov = some (listOf vs.toArray c)) (htv : h.get? tv = some (listOf vs'.toArray c'))
    (hq : h.get? dx = some (dictOf es 12)) (hd0 : h.get? d = some o) (hdict : o.IsDictOf (PySem.strKind PySem.Challenge.rw_xm0983_01.row.prog w) kvs) (hs : h.get? src = some (listOf its c0))
    (k : @Ne Nat p ov → @Ne Nat p tv → @Ne Nat p dx → @Ne Nat p d → @Ne Nat p src → @Ne Nat ov dx → @Ne Nat ov d → @Ne Nat tv dx → @Ne Nat tv d → @Ne Nat dx src → @Ne Nat d src → @Ne Nat row dx → @Ne Nat row src → @Ne Nat row dr → @Ne Nat dr src → @Ne Nat dr p → @Ne Nat dr ov → @Ne Nat dr tv → @Ne Nat row d → C) : C :=
  k (neN (at_ne hp hov (dne rfl))) (neN (at_ne hp htv (dne rfl))) (neN (at_ne hp hq (dne rfl))) (neN (at_ne hp hd0 (dictobj_ne' hdict (fun es n => dne0 rfl)))) (neN (at_ne hp hs (dne rfl))) (neN (at_ne hov hq (dne rfl))) (neN (at_ne hov hd0 (dictobj_ne' hdict (fun es n => dne0 rfl)))) (neN (at_ne htv hq (dne rfl))) (neN (at_ne htv hd0 (dictobj_ne' hdict (fun es n => dne0 rfl)))) (neN (at_ne hq hs (dne rfl))) (neN (at_ne hd0 hs (dictobj_ne hdict (fun es n => dne0 rfl)))) (neN (at_ne hr hq (dne rfl))) (neN (at_ne hr hs (dne rfl))) (neN (at_ne hr hdr (RowD.ne' hro (fun es n => dne0 rfl)))) (neN (at_ne hdr hs (RowD.ne hro (fun es n => dne0 rfl)))) (neN (at_ne hdr hp (RowD.ne hro (fun es n => dne0 rfl)))) (neN (at_ne hdr hov (RowD.ne hro (fun es n => dne0 rfl)))) (neN (at_ne hdr htv (RowD.ne hro (fun es n => dne0 rfl)))) (neN (at_ne hr hd0 (dictobj_ne' hdict (fun es n => dne0 rfl))))
theorem bits_len (st : Int) : (bitsOf st).length ≤ 100 := Nat.le_trans (List.length_filter_le _ _) (by decide)
theorem lines_50 : True := by
  k_with "own mine len" => exact bits_len _
  trivial

theorem fresh_hk {X : List Addr} {s0 hk : Heap} {L x : Addr} (S : Since X L s0 hk) (Z : NoTup hk (L :: X)) (f : Fresh hk x) : Fresh s0 x := by
  unfold Fresh at *
  cases q : s0.get? x with
  | none => rfl
  | some o =>
    have hX : x ∉ L :: X := fun e => by
      obtain ⟨o, ho, _⟩ := Z.get x e
      rw [f] at ho
      cases ho
    rw [S.get x o q (fun e => hX (e ▸ .head _)) fun e => hX (.tail _ e)] at f
    cases f
theorem lines_51 : True := by
  k_with "own mine stand" => (refine' StandAt.mk (News.get (by k_asm) (by k_mem)) (by first | assumption) ?sp_127 ?st_127 ?so_127 ?sq_127 ?sr_127 ?ss_127; (case sp_127 => walk_at "mine pair"); (case st_127 => walk_at "mine tri"); (case so_127 => exact News.get (by k_asm) (by k_mem)); (case sq_127 => assumption); (case sr_127 => exact News.get (by k_asm) (by k_mem)); (case ss_127 => first | assumption | exact .cons _ _ (.cons _ _ (.cons _ _ .nil))))
  k_with "own mine match" => ((with_reducible rename MHear _ _ _ _ _ _ _ => mH); refine' Match.of (mH.get _) ?e1_128 ?e2_128; (case e1_128 => rfl); (case e2_128 => (dsimp only [hearS]; first | rfl | simp only [*, Bool.true_or, Bool.false_or, Bool.false_eq_true, if_true, if_false])))
  k_with "own call ref" => (k_here; (with_reducible show wpAny _ _ (call (Value.ref 317) _) _ _ _); k_dflt (refine' Does.use (quiet_ok _ _ _ _ _ _ _ _) ?kB ?kF ?kX ?kT ?kk ?km_129 ?kp_129 ?kd ?ku ?_; walk_at "mine use"; (case kp_129 => exact ⟨by walk_at "mine port", by walk_at "mine stand", by first | assumption | k_ne⟩); (case km_129 => walk_at "mine own"); walk_at "mine room"); intro r' h' tk' F' K' P'; (try dsimp only at P'); obtain ⟨e', pa', st'⟩ := P'; subst e'; obtain @⟨es', av', pv', hp', hq', pe', ia', ip'⟩ := PortAt.out pa'; obtain @⟨_, _, _, _, _, _, _, _, _, _, _, hd', hdict', isv', iwv', -, -, -, -⟩ := StandAt.out st'; walk_at "mine anew")
  k_with "own call ref" => (k_here; (with_reducible show wpAny _ _ (call (Value.ref 296) _) _ _ _); k_dflt (refine' Does.use (message_ok _ _ _ _ _ _ _ _ _ _ _) ?kB ?kF ?kX ?kT ?kk ?km_130 ?kp_130 ?kd ?ku ?_; walk_at "mine use"; (case kp_130 => exact ⟨by walk_at "mine src", by walk_at "mine port", by walk_at "mine stand", by walk_at "mine info", by assumption, by assumption, by assumption, by assumption, by assumption, by first | assumption | k_ne, by first | assumption | k_ne, by first | assumption | k_ne, by first | assumption | k_ne⟩); (case km_130 => walk_at "mine own"); walk_at "mine room"); intro r' h' tk' F' K' P'; (try dsimp only at P'); obtain ⟨u', x', xd', J', e', tu', fx', fd', pd', sr'⟩ := P'; subst e'; obtain @⟨j0', j1', j2', ua', ub', y', hx', hz', ja', jb'⟩ := pd'; cases sr'; have fr1' := fresh_since (by k_asm) (by walk_at "mine kept") (by walk_at "mine notup") fx'; have fr2' := fresh_since (by k_asm) (by walk_at "mine kept") (by walk_at "mine notup") fd'; have nw1' := rest_of_fresh (by k_asm) fx' hx'; have nw2' := rest_of_fresh (by k_asm) fd' hz'; have nx' := neN (at_ne hx' hz' (dne rfl)); have of1' := off2_fresh fx' (by k_asm); have of2' := off2_fresh fd' (by k_asm); walk_at "mine anew"; (rename News _ _ _ _ => kNm); refine made_k nw1' nw2' hx' hz' kNm ?_; clear fx' fd' kNm; intro kNm; (try k_sweep))
  trivial

set_option maxHeartbeats 2000000 in
theorem hears_right_ok (w : World) (src p dx r' dr d ov tv pa : Addr) (P : PS) (S : SS) (D : Info) (z : Bool) (num prio key : Int) (za zs zm : Bool) :
    Does w 324 6 [.ref src, .ref p, .ref d, .ref pa, .bool z] [p, r', dr, ov, tv, dx, d, src] [dx, d, src] (fun h => SrcAt h src ∧ PortAt w h p dx P ∧ StandAt w h d ov tv S ∧ InfoAt h pa D ∧ RowAt w h r' dr num prio key za zs zm ∧ P.row = r' ∧ Match P S num prio key ∧ 0 ≤ D.st ∧ D.st < 256 ∧ (z && !hb P.A.st 64) = (D.same P.B && !hb P.A.st 64) ∧ d ≠ dx ∧ ov ≠ tv ∧ src ≠ ov ∧ src ≠ tv ∧ dr ≠ dx ∧ dr ≠ d) (fun h r h' => ∃ ov' tv' P' S', r = .bool true ∧ Fresh h ov' ∧ Fresh h tv' ∧ ov' ≠ tv' ∧ P'.row = r' ∧ PortAt w h' p dx P' ∧ StandAt w h' d ov' tv' S' ∧ Match P' S' num prio key ∧ SrcAt h' src) := by
  have key : model PySem.Challenge.rw_xm0983_01.row.prog w = model PySem.Challenge.rw_xm0983_01.row.prog w → hd.heap_1 w.params = hd.heap_1 w.params →
      Does w 324 6 [.ref src, .ref p, .ref d, .ref pa, .bool z] [p, r', dr, ov, tv, dx, d, src] [dx, d, src] (fun h => SrcAt h src ∧ PortAt w h p dx P ∧ StandAt w h d ov tv S ∧ InfoAt h pa D ∧ RowAt w h r' dr num prio key za zs zm ∧ P.row = r' ∧ Match P S num prio key ∧ 0 ≤ D.st ∧ D.st < 256 ∧ (z && !hb P.A.st 64) = (D.same P.B && !hb P.A.st 64) ∧ d ≠ dx ∧ ov ≠ tv ∧ src ≠ ov ∧ src ≠ tv ∧ dr ≠ dx ∧ dr ≠ d) (fun h r h' => ∃ ov' tv' P' S', r = .bool true ∧ Fresh h ov' ∧ Fresh h tv' ∧ ov' ≠ tv' ∧ P'.row = r' ∧ PortAt w h' p dx P' ∧ StandAt w h' d ov' tv' S' ∧ Match P' S' num prio key ∧ SrcAt h' src) := by
    k_fill
    intro _ _
    refine' does_of (binds := [(Str.ofString "source", Value.ref src), (Str.ofString "port", Value.ref p), (Str.ofString "stand", Value.ref d), (Str.ofString "partner", Value.ref pa), (Str.ofString "is_same", Value.bool z)]) ?up ?dn (by decide) ?ho ?hcd ?hb ?hl ?c1 ?c2 ?c3 ?c4 ?_
    case ho => k_is
    case hcd => k_is
    case hb => walk_at "mine hb"
    case hl => exact locs rfl
    case c1 => exact rfl
    case c2 => exact rfl
    case c3 => exact rfl
    case c4 => decide
    case up => exact fun h h' k p => ⟨p.1.up k, p.2.1.up k, p.2.2.1.up k, all_info k p.2.2.2.1, p.2.2.2.2.1.up k, p.2.2.2.2.2⟩
    case dn => exact fun h h' r h'' k p => by obtain ⟨a, b, c, d, e, f, g, i⟩ := p; exact ⟨a, b, c, d, e, fresh_down k f, fresh_down k g, i⟩
    intro dp un gd outer A₀ base g L s Q E mean mg mb B F X T hmut hpre hd hu hret
    have AN : Anc g s.heap := ⟨fun b o e => F.keep b o e⟩
    have AK : Since [p, r', dr, ov, tv, dx, d, src] L s.heap s.heap := Since.refl
    obtain ⟨hsrc, hport, hstand, hI, hrow, hrr, M, dt0, dt1, hz, hne1, hne2, hne3, hne4, hne5, hne6⟩ := hpre
    obtain @⟨n0, n1, u0, u1, c0, hs, g0, g1, g2⟩ := hsrc
    obtain @⟨row, A, B, heard, left, choice, turn, send, es, av, pv, hp, hq, hpe, ia, ip⟩ := hport
    obtain @⟨sa, sb, own, who, theirs, sheard, sleft, schoice, ssend, sturn, o, sv, wv, s0, s1, s2, s3, vs, c, vs', c', hd0, hdict, isv, iwv, hov, iov, htv, itv⟩ := hstand
    obtain ⟨odr, hr, hdr, hro⟩ := RowAt.hide hrow
    have mH : MHear ⟨row, A, B, heard, left, Str.ofString "selected", 5, false⟩ ⟨sa, sb, own, who, theirs, sheard, sleft, schoice, false, 5⟩ D z num prio key := ⟨fun J => (Match.quiet (Match.chosen M)).hear dt0 dt1 rfl rfl hz⟩
    have st0 := M.s0
    have st1 := M.s1
    have hperm := M.own
    have hup := M.up
    have hlen := own_len M.own
    have hlen2 := own_len M.theirs
    dsimp only at hrr st0 st1 hperm hup hlen hlen2
    clear hz M
    subst hrr
    replace hne1 := neN hne1
    replace hne2 := neN hne2
    replace hne3 := neN hne3
    replace hne4 := neN hne4
    replace hne5 := neN hne5
    replace hne6 := neN hne6
    refine seg_nes hp hr hdr hro hov htv hq hd0 hdict hs ?_
    intro ne_p_ov ne_p_tv ne_p_dx ne_p_d ne_p_src ne_ov_dx ne_ov_d ne_tv_dx ne_tv_d ne_dx_src ne_d_src ne_row_dx ne_row_src ne_row_dr ne_dr_src ne_dr_p ne_dr_ov ne_dr_tv ne_row_d
    have NT : NoTup s.heap [L, p, row, dr, ov, tv, dx, d, src] := Fr.noTup F (.cons hp inst_noTup (.cons hr inst_noTup (.cons hdr (RowD.noTup hro) (.cons hov list_noTup (.cons htv list_noTup (.cons hq dict_noTup (.cons hd0 (dictobj_noTup hdict) (.cons hs list_noTup .nil))))))))
    have N : News g L s.heap ((p, instObj 190 dx) :: (row, instObj 99 dr) :: (dr, odr) :: (ov, listOf vs.toArray c) :: (tv, listOf vs'.toArray c') :: (dx, dictOf es 12) :: (d, o) :: (src, listOf #[.int n0 u0, .int n1 u1] c0) :: restOf g L s.heap [p, row, dr, ov, tv, dx, d, src]) := News.add (hmut p (by k_mem)) hp (News.add (hmut row (by k_mem)) hr (News.add (hmut dr (by k_mem)) hdr (News.add (hmut ov (by k_mem)) hov (News.add (hmut tv (by k_mem)) htv (News.add (hmut dx (by k_mem)) hq (News.add (hmut d (by k_mem)) hd0 (News.add (hmut src (by k_mem)) hs (rest_news))))))))
    with_reducible show wpAny _ _ _ _ _ _
    k_steps
    all_goals (try dsimp only)
    all_goals refine hret _ _ _ _ (by k_asm) (since_cons htv (News.get (by k_asm) (by k_mem)) (since_cons hov (News.get (by k_asm) (by k_mem)) (since_cons hdr (News.get (by k_asm) (by k_mem)) (since_cons hr (News.get (by k_asm) (by k_mem)) (since_cons hp (News.get (by k_asm) (by k_mem)) (by walk_at "mine kept")))))) ?_
    all_goals (refine' ⟨_, _, _, _, rfl, ?f1, ?f2, ?ne, ?ro, ?po, ?st, ?ma, ?sr⟩; (case po => walk_at "mine port"); (case st => walk_at "mine stand"); (case f1 => exact fresh_hk (by k_asm) (by k_asm) (by walk_at "mine fresh")); (case f2 => exact fresh_hk (by k_asm) (by k_asm) (by walk_at "mine fresh")); (case ne => first | assumption | k_ne); (case ro => rfl); (case ma => walk_at "mine match"); (case sr => walk_at "mine src"))
  exact key rfl rfl

-- text C14
theorem text_C14 : True := by
  w_top off
  trivial

/-- all that the rest of the port's law leans on -/
structure PInv (w : World) (g : Heap) (L : Addr) (oc : Obj) (h : Heap) (src p dx r dr d ov tv : Addr) (P : PS) (S : SS) (num prio key : Int) (za zs zm : Bool) : Prop where
  hsrc : SrcAt h src
  port : PortAt w h p dx P
  stand : StandAt w h d ov tv S
  row : RowAt w h r dr num prio key za zs zm
  prow : P.row = r
  mat : Match P S num prio key
  news : ∀ x ∈ [p, r, dr, ov, tv, dx, d, src], NewAt g L h x
  cell : h.get? (L + 1) = some oc
  celln : g.get? (L + 1) = none
  ne1 : d ≠ dx
  ne2 : ov ≠ tv
  ne3 : src ≠ ov
  ne4 : src ≠ tv
  ne5 : dr ≠ dx
  ne6 : dr ≠ d

theorem SrcAt.at {h h' : Heap} {src : Addr} (k : ∀ o, h.get? src = some o → h'.get? src = some o) : SrcAt h src → SrcAt h' src
  | .mk a b c d => .mk (k _ a) b c d
theorem PortAt.at {w : World} {h h' : Heap} {p dx : Addr} {P : PS} (kt : KeepT h h') (k : ∀ o, h.get? p = some o → h'.get? p = some o) (k2 : ∀ o, h.get? dx = some o → h'.get? dx = some o) : PortAt w h p dx P → PortAt w h' p dx P
  | .mk a b e c d => .mk (k _ a) (k2 _ b) e (kt.info c) (kt.info d)
theorem StandAt.at {w : World} {h h' : Heap} {d ov tv : Addr} {S : SS} (kt : KeepT h h') (k : ∀ o, h.get? d = some o → h'.get? d = some o) (k2 : ∀ o, h.get? ov = some o → h'.get? ov = some o) (k3 : ∀ o, h.get? tv = some o → h'.get? tv = some o) : StandAt w h d ov tv S → StandAt w h' d ov tv S
  | .mk a b e f i j l m => .mk (k _ a) b (kt.pair e) (kt.tri f) (k2 _ i) j (k3 _ l) m
theorem RowAt.at {w : World} {h h' : Heap} {r dr : Addr} {num prio key : Int} {za zs zm : Bool} (k : ∀ o, h.get? r = some o → h'.get? r = some o) (k2 : ∀ o, h.get? dr = some o → h'.get? dr = some o) : RowAt w h r dr num prio key za zs zm → RowAt w h' r dr num prio key za zs zm
  | .mk a b => .mk (k _ a) (k2 _ b)
section
variable {w : World} {g : Heap} {L : Addr} {oc : Obj} {h h' : Heap} {src p dx r dr d ov tv I : Addr} {P : PS} {S : SS} {num prio key : Int} {za zs zm : Bool}
/-- the loop's own iterator may turn -/
theorem PInv.stab (i : PInv w g L oc h src p dx r dr d ov tv P S num prio key za zs zm) (k : ∀ a o, h.get? a = some o → a ≠ L → a ≠ I → h'.get? a = some o) (Z : NoTup h [L, I]) (hI : ∀ x ∈ [p, r, dr, ov, tv, dx, d, src, L + 1], x ≠ I) :
    PInv w g L oc h' src p dx r dr d ov tv P S num prio key za zs zm := by
  have kt : KeepT h h' := ⟨fun a vs n e => by
    refine k a _ e (fun q => ?_) fun q => ?_
    · obtain ⟨o, ho, hn⟩ := Z.get L (by simp)
      rw [← q, e] at ho
      cases ho
      exact hn vs n rfl
    · obtain ⟨o, ho, hn⟩ := Z.get I (by simp)
      rw [← q, e] at ho
      cases ho
      exact hn vs n rfl⟩
  have kx : ∀ x ∈ [p, r, dr, ov, tv, dx, d, src], ∀ o, h.get? x = some o → h'.get? x = some o := fun x hx o e => k x o e (i.news x hx).1 (hI x (List.mem_append_left [L + 1] hx))
  exact ⟨i.hsrc.at (kx _ (by simp)), i.port.at kt (kx _ (by simp)) (kx _ (by simp)), i.stand.at kt (kx _ (by simp)) (kx _ (by simp)) (kx _ (by simp)), i.row.at (kx _ (by simp)) (kx _ (by simp)), i.prow, i.mat,
    fun x hx => by obtain ⟨a, b, o, e⟩ := i.news x hx; exact ⟨a, b, o, kx x hx o e⟩, k _ _ i.cell (Nat.succ_ne_self L) (hI _ (by simp)), i.celln, i.ne1, i.ne2, i.ne3, i.ne4, i.ne5, i.ne6⟩
end

theorem Fr.names {g h : Heap} {L : Addr} {m : Str → Option Value} {x y : Str} {a b : Value} (F : Fr g L h m) (e1 : m x = some a) (e2 : m y = some b) : Fr g L h (fun z => if z = x then some a else if z = y then some b else m z) := by
  have e : m = fun z => if z = x then some a else if z = y then some b else m z := by
    funext z
    by_cases h1 : z = x
    · rw [if_pos h1, h1, e1]
    · rw [if_neg h1]
      by_cases h2 : z = y
      · rw [if_pos h2, h2, e2]
      · rw [if_neg h2]
  rw [← e]
  exact F

section
variable {prog : Program} {w : World} {A : Around} {E : Value → Shared → Prop} {s : Shared} {env : Env} {g : Heap} {x : Str} {body : List Stmt} {Q : Flow → Shared → Prop}
theorem itR_tup {i j : Int} {vs : List Value} {k : Nat} (e : itR i j = tupO vs k) : False := absurd (congrArg Obj.cls e) (by unfold itR; simp)
/-- how a turn of such a loop ends -/
def TurnEnd (g : Heap) (L I : Addr) (J : (Str → Option Value) → Heap → Prop) (s : Shared) (o : Obj) (Q : Flow → Shared → Prop) (f : Flow) (s₂ : Shared) : Prop :=
  match f with
  | .ret v => Q (.ret v) s₂
  | .brk => Q .next s₂
  | _ => ∃ h' tk' m', s₂ = { s with heap := h', toks := tk' } ∧ Fr g L h' m' ∧ h'.get? I = some o ∧ J m' h'
theorem iter_turns {r : Addr} {a₀ b₀ : Int} {t₀ u₀ v₀ : Tok} {n : Nat} {m₀ : Str → Option Value} (J : (Str → Option Value) → Heap → Prop)
    (hh : A.handled = none) (hr : IsRange s.heap r a₀ b₀ 1 t₀ u₀ v₀) (hsmall : Builtin.Range.small a₀ b₀ 1 = true) (hn : Builtin.Range.rangeSize a₀ b₀ 1 = (n : Int)) (F : Fr g env.locals s.heap m₀)
    (hJ : ∀ h, (∀ a o, s.heap.get? a = some o → h.get? a = some o) → J m₀ h)
    (stab : ∀ m h h', J m h → NoTup h [env.locals, s.heap.objs.size] → (∀ a o, h.get? a = some o → a ≠ env.locals → a ≠ s.heap.objs.size → h'.get? a = some o) → J m h')
    (turn : ∀ (i : Int) t h tk m₁ o, J m₁ h → Fr g env.locals h (fun y => if y = x then some (.int i t) else m₁ y) → h.get? s.heap.objs.size = some o → o.cls = .type "range_iterator" →
      wpAny (model prog w) A (execs body env) (TurnEnd g env.locals s.heap.objs.size J s o Q) E { s with heap := h, toks := tk })
    (done : ∀ m h tk, J m h → Fr g env.locals h m → Q .next { s with heap := h, toks := tk }) :
    wpAny (model prog w) A (pyIter (.ref r)) (fun it s₂ => LoopAtV prog w A g env x body Q E it s₂) E s := by
  refine wpAny_pyIter_range hr hsmall ?_
  have W : Walks prog w A s.heap.objs.size [s.heap.objs.size] [s.heap.objs.size] n (fun i v => i < n ∧ ∃ t, v = .int (a₀ + i * 1) t)
      (fun i h => IsRangeIter h s.heap.objs.size (a₀ + (i : Nat) * 1) ((n : Int) - (i : Nat)) 1) := (Walks.range hh _ a₀ 1 n).bound
  have hnew := next_is_new F
  have hLI : env.locals ≠ s.heap.objs.size := Nat.ne_of_lt F.ns.lt
  let J' : Nat → (Str → Option Value) → List (Addr × Obj) → Prop := fun _ m₁ news₁ => ∃ hk, news₁ = restOf g env.locals hk [s.heap.objs.size] ∧ Anc g hk ∧ NoTup hk [env.locals, s.heap.objs.size] ∧ J m₁ hk
  have up : ∀ a o, s.heap.get? a = some o → (s.heap.push (itR a₀ (n : Int))).get? a = some o := fun a o e => Heap.get?_push_of_some _ e
  have F1 := F.push (itR a₀ (n : Int))
  have hI1 : (s.heap.push (itR a₀ (n : Int))).get? s.heap.objs.size = some (itR a₀ (n : Int)) := Heap.get?_push_size _ rfl
  have e0 : itR a₀ (n : Int) = itR (a₀ + ((0 : Nat) : Int) * 1) ((n : Int) - ((0 : Nat) : Int)) := by simp
  refine ⟨_, _, _, n, _, _, m₀, restOf g env.locals (s.heap.push (itR a₀ (n : Int))) [s.heap.objs.size], J', rfl, W, ?_, ?_, ?_, (by show IsRangeIter _ _ _ _ _; rw [hn]; simpa using Heap.get?_push_size _ rfl), (by rw [hn]; exact F1), (by rw [hn]; exact rest_news),
    ⟨_, rfl, ⟨fun b o e => F1.keep b o e⟩, Fr.noTup F1 (.cons hI1 (fun vs k e => itR_tup e) .nil), hJ _ up⟩, ?_, ?_⟩
  · intro hm
    exact hLI (List.mem_singleton.mp hm)
  · intro b hb
    rw [List.mem_singleton.mp hb]
    exact hnew
  · intro p hp
    exact (mem_restOf.mp (show (p.1, p.2) ∈ restOf _ _ _ _ from hp)).2.2.2
  · rintro i v m₁ news₁ s₁ own ⟨hh', tk', rfl⟩ hin ⟨_, t, rfl⟩ ⟨hk, rfl, AN, Z, hJ1⟩ hoff hown hget hall hst F₁ N₁
    have hst' : hh'.get? s.heap.objs.size = some (itR (a₀ + ((i + 1 : Nat) : Int) * 1) ((n : Int) - ((i + 1 : Nat) : Int))) := hst
    have hkeep : ∀ a o, hk.get? a = some o → a ≠ env.locals → a ≠ s.heap.objs.size → hh'.get? a = some o := fun a o e h1 h2 =>
      kept_now AN F₁ N₁ (fun p hp => List.mem_append_right _ hp) a o e h1 (fun q => h2 (List.mem_singleton.mp q))
    refine wpAny_mono (turn (a₀ + (i : Int) * 1) t hh' tk' m₁ _ (stab _ _ _ hJ1 Z hkeep) F₁ hst' rfl) (fun f s₂ p => ?_) fun _ _ e => e
    have fin : (∃ h' tk' m', s₂ = { s with heap := h', toks := tk' } ∧ Fr g env.locals h' m' ∧ h'.get? s.heap.objs.size = some (itR (a₀ + ((i + 1 : Nat) : Int) * 1) ((n : Int) - ((i + 1 : Nat) : Int))) ∧ J m' h') →
        LoopStepU g env.locals [s.heap.objs.size] own (J' (i + 1)) { s with heap := hh', toks := tk' } .next s₂ := by
      rintro ⟨h', tk, m', e, F', hI', hJ'⟩
      refine ⟨rfl, h', tk, m', restOf g env.locals h' [s.heap.objs.size], e, F', fun p hp => ?_, fun p hp => ?_, _, rfl, ⟨fun b o e => F'.keep b o e⟩, Fr.noTup F' (.cons hI' (fun vs k e => itR_tup e) .nil), hJ'⟩
      · rcases List.mem_append.mp hp with hp | hp
        · have h1 : p.1 = s.heap.objs.size := List.mem_singleton.mp (hown p hp)
          have h2 : hh'.get? p.1 = some p.2 := hget p hp
          rw [h1, hst'] at h2
          refine ⟨?_, ?_, ?_⟩
          · rw [h1, hI', h2]
          · rw [h1]; exact Ne.symm hLI
          · rw [h1]; exact hnew
        · exact rest_news p hp
      · exact (mem_restOf.mp (show (p.1, p.2) ∈ restOf _ _ _ _ from hp)).2.2.2
    cases f with
    | ret v => exact .ret p
    | brk => exact .brk p
    | next => exact .next (fin p)
    | cont => exact .cont (fin p)
  · rintro h' tk m' news' F' N' _ ⟨hk, rfl, AN, Z, hJ1⟩
    exact done m' h' tk (stab _ _ _ hJ1 Z fun a o e h1 h2 => kept_now AN F' N' (fun p hp => hp) a o e h1 (fun q => h2 (List.mem_singleton.mp q))) F'
end

theorem cls_ne {h : Heap} {a I : Addr} {oa o : Obj} (e : h.get? a = some oa) (e' : h.get? I = some o) (n : oa.cls ≠ o.cls) : a ≠ I := fun q => by
  rw [q, e'] at e
  cases e
  exact n rfl
def loopBody : List Stmt → List Stmt
  | .For _ _ b _ _ :: _ => b
  | _ => []
theorem cut_turn {M : Model} {A : Around} {l : List Stmt} {env : Env} {Q : Flow → Shared → Prop} {E : Value → Shared → Prop} {s : Shared} (n : Nat) (P : List Stmt → Prop) (C : P (loopBody (l.drop n))) (k : P (loopBody (l.drop n)) → wpAny M A (execs l env) Q E s) : wpAny M A (execs l env) Q E s := k C

-- text C15
theorem text_C15 : True := by
  w_top off
  trivial

/-- where the paths meet -/
inductive JJ (w : World) (g : Heap) (L : Addr) (oc : Obj) (src : Addr) (s : Shared) (s' : Shared) : Prop where
  | mk {h : Heap} {tk : Nat} {m : Str → Option Value} {p dx r dr d ov tv : Addr} {P : PS} {S : SS} {num prio key : Int} {za zs zm : Bool} : s' = { s with heap := h, toks := tk } → Fr g L h m → m (Str.ofString "port") = some (.ref p) → m (Str.ofString "stand") = some (.ref d) →
      PInv w g L oc h src p dx r dr d ov tv P S num prio key za zs zm → Since [src] L s.heap h → Fresh s.heap dx → Fresh s.heap d → JJ w g L oc src s s'
/-- what a loop keeps -/
def LJ (w : World) (g : Heap) (L : Addr) (oc : Obj) (h0 : Heap) (src p dx r dr d : Addr) (num prio key : Int) (za zs zm : Bool) (m : Str → Option Value) (h : Heap) : Prop :=
  ∃ ov tv P S, m (Str.ofString "port") = some (.ref p) ∧ m (Str.ofString "stand") = some (.ref d) ∧ PInv w g L oc h src p dx r dr d ov tv P S num prio key za zs zm ∧ (∀ x ∈ [p, r, dr, ov, tv, dx, d, src, L + 1], x ≠ h0.objs.size) ∧ Since [dx, d, src] L h0 h
theorem LJ.stab {w : World} {g : Heap} {L : Addr} {oc : Obj} {h0 : Heap} {src p dx r dr d : Addr} {num prio key : Int} {za zs zm : Bool} {m : Str → Option Value} {h h' : Heap} (j : LJ w g L oc h0 src p dx r dr d num prio key za zs zm m h)
    (Z : NoTup h [L, h0.objs.size]) (k : ∀ a o, h.get? a = some o → a ≠ L → a ≠ h0.objs.size → h'.get? a = some o) : LJ w g L oc h0 src p dx r dr d num prio key za zs zm m h' := by
  obtain ⟨ov, tv, P, S, e1, e2, i, off, si⟩ := j
  exact ⟨ov, tv, P, S, e1, e2, i.stab k Z off, off, ⟨fun a o e h1 h2 => k a o (si.get a o e h1 h2) h1 (Nat.ne_of_lt (Heap.lt_size e))⟩⟩
theorem since_trans {X : List Addr} {L : Addr} {h h' h'' : Heap} (a : Since X L h h') (b : Since X L h' h'') : Since X L h h'' := ⟨fun x o e h1 h2 => b.get x o (a.get x o e h1 h2) h1 h2⟩
theorem since_drop {X : List Addr} {L x : Addr} {h h' : Heap} (f : Fresh h x) (a : Since (x :: X) L h h') : Since X L h h' := ⟨fun y o e h1 h2 => a.get y o e h1 fun q => by
  rcases List.mem_cons.mp q with q | q
  · unfold Fresh at f
    rw [← q, e] at f
    cases f
  · exact h2 q⟩
theorem since_more {X : List Addr} {L x : Addr} {h h' : Heap} (a : Since X L h h') : Since (x :: X) L h h' := ⟨fun y o e h1 h2 => a.get y o e h1 fun q => h2 (.tail _ q)⟩
theorem since_on {L dx d src : Addr} {h h' h'' : Heap} (a : Since [src] L h h') (b : Since [dx, d, src] L h' h'') (f1 : Fresh h dx) (f2 : Fresh h d) : Since [src] L h h'' :=
  since_drop f2 (since_drop f1 (since_trans (since_more (since_more a)) b))
def TurnGood (w : World) (g : Heap) (L : Addr) (oc : Obj) (s1 : Shared) (src p dx r dr d : Addr) (num prio key : Int) (za zs zm : Bool) (o : Obj) (f : Flow) (s₂ : Shared) : Prop :=
  f = .next ∧ ∃ h' tk' m', s₂ = { s1 with heap := h', toks := tk' } ∧ Fr g L h' m' ∧ h'.get? s1.heap.objs.size = some o ∧ LJ w g L oc s1.heap src p dx r dr d num prio key za zs zm m' h'
def TurnOK (w : World) (A : Around) (g : Heap) (L : Addr) (oc : Obj) (src : Addr) (env : Env) (b : List Stmt) : Prop :=
  ∀ (s1 : Shared) (i : Int) (t : Tok) (h : Heap) (tk : Nat) (m₁ : Str → Option Value) (o : Obj) (p dx r dr d : Addr) (num prio key : Int) (za zs zm : Bool) (E : Value → Shared → Prop),
    LJ w g L oc s1.heap src p dx r dr d num prio key za zs zm m₁ h → Fr g L h (fun y => if y = Str.ofString "turn" then some (.int i t) else m₁ y) → h.get? s1.heap.objs.size = some o → o.cls = .type "range_iterator" → L ≠ s1.heap.objs.size →
    wpAny (model PySem.Challenge.rw_xm0983_01.row.prog w) A (execs b env) (TurnGood w g L oc s1 src p dx r dr d num prio key za zs zm o) E { s1 with heap := h, toks := tk }
theorem cut_loop {w : World} {A : Around} {l : List Stmt} {env : Env} {Q : Flow → Shared → Prop} {E : Value → Shared → Prop} {s : Shared} {g : Heap} {L : Addr} {oc : Obj} {src : Addr} (n : Nat) (C : TurnOK w A g L oc src env (loopBody (l.drop n)))
    (k : TurnOK w A g L oc src env (loopBody (l.drop n)) → wpAny (model PySem.Challenge.rw_xm0983_01.row.prog w) A (execs l env) Q E s) : wpAny (model PySem.Challenge.rw_xm0983_01.row.prog w) A (execs l env) Q E s := k C
theorem range_few {d : Int} (h0 : 0 ≤ d) (h1 : d < 3) : Builtin.Range.small 0 (1 + d) 1 = true ∧ Builtin.Range.rangeSize 0 (1 + d) 1 = ((1 + d).toNat : Int) := by
  have : d = 0 ∨ d = 1 ∨ d = 2 := by omega
  rcases this with rfl | rfl | rfl <;> decide
theorem PInv.up {w : World} {g : Heap} {L : Addr} {oc : Obj} {h h' : Heap} {src : Addr} {p dx r dr d ov tv : Addr} {P : PS} {S : SS} {num prio key : Int} {za zs zm : Bool} (k : ∀ a o, h.get? a = some o → h'.get? a = some o) (i : PInv w g L oc h src p dx r dr d ov tv P S num prio key za zs zm) : PInv w g L oc h' src p dx r dr d ov tv P S num prio key za zs zm :=
  ⟨i.hsrc.up k, i.port.up k, i.stand.up k, i.row.up k, i.prow, i.mat, fun x hx => by obtain ⟨a, b, o, e⟩ := i.news x hx; exact ⟨a, b, o, k _ _ e⟩, k _ _ i.cell, i.celln, i.ne1, i.ne2, i.ne3, i.ne4, i.ne5, i.ne6⟩
theorem PInv.off {w : World} {g : Heap} {L : Addr} {oc : Obj} {h : Heap} {src : Addr} {p dx r dr d ov tv : Addr} {P : PS} {S : SS} {num prio key : Int} {za zs zm : Bool} (i : PInv w g L oc h src p dx r dr d ov tv P S num prio key za zs zm) : ∀ x ∈ [p, r, dr, ov, tv, dx, d, src, L + 1], x ≠ h.objs.size := fun x hx => by
  rcases List.mem_append.mp (show x ∈ [p, r, dr, ov, tv, dx, d, src] ++ [L + 1] from hx) with hx | hx
  · obtain ⟨_, _, o, e⟩ := i.news x hx
    exact Nat.ne_of_lt (Heap.lt_size e)
  · rw [List.mem_singleton.mp hx]
    exact Nat.ne_of_lt (Heap.lt_size i.cell)
theorem loop_ok {w : World} {A : Around} {E : Value → Shared → Prop} {s : Shared} {env : Env} {g : Heap} {L : Addr} {oc : Obj} {src : Addr} {body : List Stmt} {Q : Flow → Shared → Prop} {p dx r dr d ov tv : Addr} {P : PS} {S : SS} {num prio key : Int} {za zs zm : Bool} {rr : Addr} {c : Int} {t₀ u₀ v₀ : Tok} {m₀ : Str → Option Value}
    (T : TurnOK w A g L oc src env body) (hL : env.locals = L) (hh : A.handled = none) (hr : IsRange s.heap rr 0 (1 + c) 1 t₀ u₀ v₀) (c0 : 0 ≤ c) (c3 : c < 3) (F : Fr g L s.heap m₀) (e1 : m₀ (Str.ofString "port") = some (.ref p)) (e2 : m₀ (Str.ofString "stand") = some (.ref d))
    (i : PInv w g L oc s.heap src p dx r dr d ov tv P S num prio key za zs zm) (done : ∀ m h tk, LJ w g L oc s.heap src p dx r dr d num prio key za zs zm m h → Fr g L h m → Q .next { s with heap := h, toks := tk }) :
    wpAny (model PySem.Challenge.rw_xm0983_01.row.prog w) A (pyIter (.ref rr)) (fun it s₂ => LoopAtV PySem.Challenge.rw_xm0983_01.row.prog w A g env (Str.ofString "turn") body Q E it s₂) E s := by
  subst hL
  have few := range_few c0 c3
  refine iter_turns (LJ w g env.locals oc s.heap src p dx r dr d num prio key za zs zm) hh hr few.1 few.2 F (fun h k => ⟨ov, tv, P, S, e1, e2, i.up k, i.off, ⟨fun a o e _ _ => k a o e⟩⟩) (fun m h h' j Z k => j.stab Z k) (fun n t h tk m₁ o j F1 eI hc => ?_) done
  refine wpAny_mono (T s n t h tk m₁ o p dx r dr d num prio key za zs zm E j F1 eI hc (Nat.ne_of_lt F.ns.lt)) (fun f s₂ q => ?_) fun _ _ e => e
  obtain ⟨rfl, h', tk', m', e, F', g', j'⟩ := q
  exact ⟨h', tk', m', e, F', g', j'⟩
theorem bne_no {b : Bool} (h : (b != b) = true) : False := by cases b <;> cases h
theorem silentP_row (P : PS) : (silentP P).row = P.row := by
  unfold silentP
  split
  · rfl
  · rfl
theorem PortAt.ex {w : World} {h : Heap} {p dx : Addr} {P : PS} {φ : PS → Prop} (a : PortAt w h p dx P) (b : φ P) : ∃ P2, PortAt w h p dx P2 ∧ φ P2 := ⟨P, a, b⟩
theorem StandAt.ex {w : World} {h : Heap} {d ov tv : Addr} {S : SS} {φ : SS → Prop} (a : StandAt w h d ov tv S) (b : φ S) : ∃ S2, StandAt w h d ov tv S2 ∧ φ S2 := ⟨S, a, b⟩
structure MSil (P : PS) (S : SS) (num prio key : Int) : Prop where
  get : Match (silentP P) (silentS S) num prio key
structure MPut (P : PS) (S : SS) (num prio key : Int) : Prop where
  get : ∀ b z, b ∈ allB → Match ⟨P.row, P.A.put b z, P.B, P.heard, P.left, P.choice, P.turn, P.send⟩ ⟨S.sa, S.sb, putB S.own b z, S.who, S.theirs, S.heard, S.left, S.choice, S.send, S.turn⟩ num prio key
  told : ∀ b z, b ∈ allB → ((!decide (P.A.put b z = P.A)) != (decide (b ∈ S.own) != z)) = false
theorem lines_52 : True := by
  k_with "own mine match" => ((with_reducible rename MPut _ _ _ _ _ => mP); exact mP.get _ _ (by assumption))
  k_with "own mine match" => assumption
  trivial

def okSame (n : Nat) : Bool := allB.all fun b => [true, false].all fun z => decide (wb n b z = n) == (hb n b == z)
theorem sames : ∀ n : Nat, n < 256 → okSame n = true := by decide +kernel
theorem put_same {A : Info} {b : Int} {z : Bool} (h0 : 0 ≤ A.st) (h1 : A.st < 256) (hb' : b ∈ allB) : decide (A.put b z = A) = (hb A.st b == z) := by
  have e : decide (A.put b z = A) = decide (wb A.st b z = A.st) := by
    refine decide_eq_decide.mpr ⟨fun q => congrArg Info.st q, fun q => ?_⟩
    unfold Info.put
    rw [q]
  rw [e]
  obtain ⟨n, hn⟩ := Int.eq_ofNat_of_zero_le h0
  rw [hn] at h1 ⊢
  have := List.all_eq_true.mp (List.all_eq_true.mp (sames n (by omega)) b hb') z (by cases z <;> simp)
  simpa using this
theorem Match.mput {P : PS} {S : SS} {num prio key : Int} (m : Match P S num prio key) : MPut P S num prio key := ⟨fun _ z h => m.put h z, fun b z h => by
  rw [put_same m.s0 m.s1 h, own_mem m.own m.s0 m.s1 h]
  cases hb P.A.st b <;> cases z <;> rfl⟩
theorem fresh_ne {h : Heap} {x I : Addr} {o : Obj} (f : Fresh h x) (e : h.get? I = some o) : x ≠ I := fun q => by
  unfold Fresh at f
  rw [q, e] at f
  cases f
theorem zc_first {x a : Bool} (h : x = true) : (false && !x) = (a && !x) := by rw [h]; cases a <;> rfl
theorem zc_near {P : PS} {S : SS} {num prio key : Int} {J : Info} {z : Bool} {b : Int} (m : Match P S num prio key) (n : Near ⟨S.who.a, S.who.b, S.who.c, S.who.d, S.who.e, S.theirs.sum⟩ J z b) : ((z && b != 4) && !hb P.A.st 64) = (J.same P.B && !hb P.A.st 64) := by
  have e2 : P.B = ⟨S.who.a, S.who.b, S.who.c, S.who.d, S.who.e, S.theirs.sum⟩ := by
    obtain ⟨a, b, c, d, e⟩ := ends_iff.mp m.who
    rw [own_sum m.theirs m.t0 m.t1, ← a, ← b, ← c, ← d, ← e]
  rw [← e2] at n
  rw [(near_same n m.t0 m.t1).2]
theorem sum_lo {P : PS} {S : SS} {num prio key : Int} (m : Match P S num prio key) : 0 ≤ S.theirs.sum := by rw [own_sum m.theirs m.t0 m.t1]; exact m.t0
theorem sum_hi {P : PS} {S : SS} {num prio key : Int} (m : Match P S num prio key) : S.theirs.sum < 256 := by rw [own_sum m.theirs m.t0 m.t1]; exact m.t1
inductive JJ8 (w : World) (g : Heap) (L : Addr) (oc : Obj) (src : Addr) (s : Shared) (s' : Shared) : Prop where
  | mk {h : Heap} {tk : Nat} {m : Str → Option Value} {p dx r dr d ov tv : Addr} {P : PS} {S : SS} {num prio key : Int} {za zs zm : Bool} : s' = { s with heap := h, toks := tk } → Fr g L h m → m (Str.ofString "port") = some (.ref p) → m (Str.ofString "stand") = some (.ref d) →
      PInv w g L oc h src p dx r dr d ov tv P S num prio key za zs zm → Since [src] L s.heap h → Fresh s.heap dx → Fresh s.heap d → hb P.A.st 64 = true → JJ8 w g L oc src s s'
theorem lines_53 : True := by
  k_with "own mine zc" => first | exact zc_first (by assumption) | exact zc_near (by assumption) (by assumption)
  k_with "own mine b0" => first | assumption | exact (near_bounds (by assumption) (by assumption) (by assumption)).1
  k_with "own mine b1" => first | assumption | exact (near_bounds (by assumption) (by assumption) (by assumption)).2
  trivial

def Halt (P : Prop) : Prop := P
theorem halt {P : Prop} (h : Halt P) : P := h
theorem lines_54 : True := by
  k_with "own pyIter ref" => ((with_reducible show wpAny _ _ (pyIter (Value.ref _)) (fun it s₂ => LoopAtV _ _ _ _ _ _ _ _ _ it s₂) _ _); refine halt ?_)
  k_with "own isTrue BoolOp" => (k_here; with_reducible first | refine isTrue_or_nil ?_ | refine isTrue_or ?_)
  k_with "own execs cons" => (k_here; refine seg_use (by with_reducible assumption) ?_)
  k_with "own call ref" => (k_here; (with_reducible show wpAny _ _ (call (Value.ref 208) _) _ _ _); k_dflt (refine' Does.use (fall_silent_ok _ _ _ _) ?kB ?kF ?kX ?kT ?kk ?km_139 ?kp_139 ?kd ?ku ?_; walk_at "mine use"; (case kp_139 => walk_at "mine port"); (case km_139 => walk_at "mine own"); walk_at "mine room"); intro r' h' tk' F' K' P'; (try dsimp only at P'); obtain ⟨e', pa'⟩ := P'; subst e'; (with_reducible rename MSil _ _ _ _ _ => mS); obtain ⟨P2, pa2, m2⟩ := PortAt.ex (φ := fun P2 => Match P2 (silentS _) _ _ _ ∧ P2.row = _) pa' ⟨mS.get, silentP_row _⟩; obtain @⟨row2', _, _, _, _, _, _, _, _, _, _, hp2', hq2', pe2', ia2', ip2'⟩ := pa2; (try dsimp only at m2); obtain ⟨m2', e2'⟩ := m2; subst e2'; clear mS; walk_at "mine anew")
  k_with "own call ref" => (k_here; (with_reducible show wpAny _ _ (call (Value.ref 310) _) _ _ _); k_dflt (refine' Does.use (silent_ok _ _ _ _ _) ?kB ?kF ?kX ?kT ?kk ?km_140 ?kp_140 ?kd ?ku ?_; walk_at "mine use"; (case kp_140 => exact ⟨by walk_at "mine stand", by ((try dsimp only); walk_at "mine len"), by ((try dsimp only); walk_at "mine len"), by first | assumption | k_ne⟩); (case km_140 => walk_at "mine own"); walk_at "mine room"); intro r' h' tk' F' K' P'; obtain ⟨ov2', tv2', e', fo', ft', nn', st'⟩ := P'; subst e'; (with_reducible rename Match _ _ _ _ _ => m2'); obtain ⟨S2, st2, m3⟩ := StandAt.ex (φ := fun S2 => Match _ S2 _ _ _) st' m2'; clear m2'; obtain @⟨_, _, _, _, _, _, _, _, _, _, _, _, _, _, _, _, _, _, _, _, _, hd', hdict', isv', iwv', hov', iov', htv', itv'⟩ := st2; (try dsimp only at m3); have nn2' := neN nn'; have nw1' := rest_of_fresh (by k_asm) fo' hov'; have nw2' := rest_of_fresh (by k_asm) ft' htv'; have of1' := off2_fresh fo' (by k_asm); have of2' := off2_fresh ft' (by k_asm); walk_at "mine anew"; (rename News _ _ _ _ => kNm); refine made_k nw1' nw2' hov' htv' kNm ?_; clear fo' ft' kNm; intro kNm; (try k_sweep))
  k_with "own call ref" => (k_here; (with_reducible show wpAny _ _ (call (Value.ref 282) _) _ _ _); k_dflt (refine' Does.use (near_ok _ _ _ _) ?kB ?kF ?kX ?kT ?kk ?km_141 ?kp_141 ?kd ?ku ?_; walk_at "mine use"; (case kp_141 => exact ⟨by walk_at "mine src", by first | walk_at "mine info" | walk_at "mine newinfo", by assumption, by assumption⟩); (case km_141 => walk_at "mine own"); walk_at "mine room"); intro r' h' tk' F' K' P'; (try dsimp only at P'); obtain ⟨u', x', J', z', b', t', e', tu', ix', nr', s'⟩ := P'; subst e'; cases s'; walk_at "mine anew")
  k_with "own call ref" => (k_here; (with_reducible show wpAny _ _ (call (Value.ref 324) _) _ _ _); k_dflt (refine' Does.use (hears_right_ok _ _ _ _ _ _ _ _ _ _ _ _ _ _ _ _ _ _ _ _ ) ?kB ?kF ?kX ?kT ?kk ?km_142 ?kp_142 ?kd ?ku ?_; walk_at "mine use"; (case kp_142 => exact ⟨by walk_at "mine src", by walk_at "mine port", by walk_at "mine stand", by walk_at "mine info", by walk_at "mine row", rfl, by walk_at "mine match", by walk_at "mine b0", by walk_at "mine b1", by walk_at "mine zc", by first | assumption | k_ne, by first | assumption | k_ne, by first | assumption | k_ne, by first | assumption | k_ne, by first | assumption | k_ne, by first | assumption | k_ne⟩); (case km_142 => walk_at "mine own"); walk_at "mine room"); intro r' h' tk' F' K' P'; obtain ⟨ov2', tv2', P2, S2, e', fo', ft', nn', ro', pa2, st2, m3, sr'⟩ := P'; subst e'; cases sr'; have lo' := sum_lo m3; have hi' := sum_hi m3; obtain @⟨row2', _, _, _, _, _, _, _, _, _, _, hp2', hq2', pe2', ia2', ip2'⟩ := pa2; obtain @⟨_, _, _, _, _, _, _, _, _, _, _, _, _, _, _, _, _, _, _, _, _, hd', hdict', isv', iwv', hov', iov', htv', itv'⟩ := st2; (try dsimp only at m3 ro' lo' hi'); subst ro'; have nn2' := neN nn'; have nw1' := rest_of_fresh (by k_asm) fo' hov'; have nw2' := rest_of_fresh (by k_asm) ft' htv'; have of1' := off2_fresh fo' (by k_asm); have of2' := off2_fresh ft' (by k_asm); walk_at "mine anew"; (rename News _ _ _ _ => kNm); refine made_k nw1' nw2' hov' htv' kNm ?_; clear fo' ft' kNm; intro kNm; (try k_sweep))
  trivial

-- text CellE
theorem text_CellE : True := by
  w_top off
  trivial

/-- the way into a def some of whose names are kept for a block within -/
theorem does_ofCE {w : World} {f : Addr} {n : Nat} {vs : List Value} {Own Mut : List Addr} {Pre : Heap → Prop} {Post : Heap → Value → Heap → Prop}
    {name qual : Str} {params : Arguments} {body : List Stmt} {scope : Scope} {dV kV doc pm cdv ct oc : Value} {an od : Option Addr} {osl : Array (Option Value)} {binds : List (Str × Value)}
    (hup : Up Pre) (hdn : Down Post) (hn : 1 ≤ n)
    (ho : (hd.heap_1 w.params).lookup f = some ⟨oc, od, .func (fnOf name qual params body scope dV kV doc pm an cdv ct), osl⟩) (hcd : codeIn (hd.heap_1 w.params) cdv qual = true)
    (hbind : ∀ s : Shared, (hd.heap_1 w.params).In s.heap → BindsTo s (fnOf name qual params body scope dV kV doc pm an cdv ct) ⟨vs, []⟩ binds)
    (hkind : (binds.all fun y => scope.names.lookup y.1 == some .local || scope.names.lookup y.1 == some .cell) = true)
    (hco : scope.isCoroutine = false) (hgen : scope.isGenerator = false) (hk : scope.kind = .function) (hnd : ((cellsFrom 0 scope.names []).map (·.1)).Nodup)
    (h : ∀ (dp un : Nat) (gd : Option (List Code)) (outer : List Env) (A₀ : Around) (base g : Heap) (L : Addr) (s : Shared) (Q E : Value → Shared → Prop) (mean : ExcName → Option Value) (mg mb : Str → Option Value) (cells : List (Addr × Obj)),
      Below A₀ base outer g → Fr g L s.heap (bindL (envOfC qual scope L f cdv).kindOf binds fun _ => none) → (hd.heap_1 w.params).In g → Top hd.view_1 LO mean mg mb g →
      News g L s.heap cells → CellsAre (bindC (envOfC qual scope L f cdv).kindOf binds fun _ => none) (cellsFrom (L + 1) scope.names []) cells → (∀ p ∈ cells, ∀ x ∈ Own, p.1 ≠ x) →
      PassesOwn (model PySem.Challenge.rw_xm0983_01.row.prog w) (ktrTop dp un gd qual scope L f cdv (cellsFrom (L + 1) scope.names []) outer) (envX qual scope L f cdv (cellsFrom (L + 1) scope.names [])) E →
      (∀ x ∈ Own, NewAt g L s.heap x) → Pre s.heap → dp + n ≤ recursionLimit → un + 8 * n + 192 < cLine →
      (∀ r h' tk' m', Fr g L h' m' → (∀ a o, s.heap.get? a = some o → a ≠ L → (∀ p ∈ cells, p.1 ≠ a) → a ∉ Mut → h'.get? a = some o) → Post s.heap r h' → Q r { s with heap := h', toks := tk' }) →
      wpAny (model PySem.Challenge.rw_xm0983_01.row.prog w) (ktrTop dp un gd qual scope L f cdv (cellsFrom (L + 1) scope.names []) outer) (execs body (envX qual scope L f cdv (cellsFrom (L + 1) scope.names [])))
        (fun fl s' => Q (match fl with | .ret v => v | _ => .none) s') E s) :
    Does w f n vs Own Mut Pre Post := by
  intro dp un gd cn cs a ccd cl outer A₀ base h₀ L m s Q E mean mg mb B F X T hkc hmut hpre hdp hun hret
  refine wpAny_call ?_
  have N : News h₀ L s.heap (restOf h₀ L s.heap []) := rest_news
  obtain ⟨FG, BG, st, lv⟩ := groundX (A := ktrTop dp un gd cn cs L a ccd cl outer) (R := fun r s' => match r with | .ok (.ret v) => Q v s' | .ok _ => False | .error e => E e s') B F N rfl rfl hkc
  have Xs := X.keeps F.keep
  refine codeAny_call_function (by show dp < _; omega) (Xs _ _ ho) rfl hco hgen rfl (codeRec_of Xs hcd) (hbind s Xs _ _ _ _ ?_)
  refine wpAny_newFunctionEnv_cells hk (kindsX hkind _) fun env' he s' x => ?_
  subst he
  refine ⟨(T.nolimit.keeps F.keep).keeps x.toInCall.keep, codeAny_func ?_⟩
  obtain ⟨h₁, tk, rfl, _⟩ := x.done
  have hk₁ := x.toInCall.keep
  obtain ⟨cells, NC, Y⟩ := Cl.news (h₀ := s.heap) (Nat.le_refl _) fun n c hm => ⟨x.cell n c (lookup_of_mem_nodup (cellsFrom_names scope.names 0 (s.heap.objs.size + 1) [] [] rfl ▸ hnd) hm), x.above n c hm⟩
  have NC' : News (hideAll s.heap ((restOf h₀ L s.heap []).map (·.1))) s.heap.objs.size h₁ cells := fun p hp => by
    refine ⟨(NC p hp).1, (NC p hp).2.1, ?_⟩
    cases q : (hideAll s.heap ((restOf h₀ L s.heap []).map (·.1))).get? p.1 with
    | none => rfl
    | some o => have := of_hideAll _ q; rw [(NC p hp).2.2] at this; cases this
  have key := h (dp + 1) (un + 3) gd (envX cn cs L a ccd cl :: outer) _ base _ s.heap.objs.size { s with heap := h₁, toks := tk } Q
    (fun e s' => wpAny (model PySem.Challenge.rw_xm0983_01.row.prog w) ((ktrTop dp un gd cn cs L a ccd cl outer).deeper (envOfC qual scope s.heap.objs.size f cdv)) (leaving (envOfC qual scope s.heap.objs.size f cdv) e) (fun _ s'' => E e s'') (fun e' s'' => E e' s'') s')
    mean mg mb cells BG ⟨x.toInCall.ns, fun b o e => hk₁ b o (of_hideAll _ e), Nat.le_of_eq (hideAll_size _ _)⟩ (X.keeps st) (T.keeps st) NC' Y ?_ PassesOwn.leaving ?_ (hup _ _ hk₁ hpre) (by omega) (by omega) ?_
  · exact key
  · intro p hp x hx e
    obtain ⟨_, _, o, x3⟩ := hmut x hx
    have := (NC p hp).2.2
    rw [e, x3] at this
    cases this
  · intro x hx
    obtain ⟨x1, x2, o, x3⟩ := hmut x hx
    refine ⟨fun e => ?_, ?_, o, hk₁ _ _ x3⟩
    · have := Heap.lt_size x3; rw [e] at this; exact absurd this (Nat.lt_irrefl _)
    · exact hideAll_none _ (List.mem_map.mpr ⟨(x, o), mem_restOf.mpr ⟨x3, x1, x2, fun q => nomatch q⟩, rfl⟩)
  · intro r h' tk' m' F' kp hpost
    refine lv r { s with heap := h', toks := tk' } ⟨_, m', [], F', News.nil, fun Fb _ => ?_⟩
    refine hret r h' tk' Fb ⟨fun a o e _ hx => ?_⟩ (hdn _ _ _ _ hk₁ hpost)
    refine kp a o (hk₁ _ _ e) (fun q => by have := Heap.lt_size e; rw [q] at this; exact absurd this (Nat.lt_irrefl _)) (fun p hp q => ?_) hx
    have := (NC p hp).2.2
    rw [q, e] at this
    cases this

theorem lines_55 : True := by
  k_with "own exec For Name Call cons nil" => (k_here; (rename Fr _ _ _ _ => lF'); (with_unfolding_all refine' For_invVF lF' ?k1_143 ?k2_143 ?_; (case k1_143 => exact rfl); (case k2_143 => exact rfl); k_whole))
  k_with "own call type:range" => (k_here; k_dflt (refine' range1_rows ?F_144 ?N_144 ?_; (case F_144 => k_asm); (case N_144 => k_asm)); intro h' tk' t' u' v' R' F' N' up'; clear up'; (try k_sweep))
  trivial

/-- a new object that will be changed joins X -/
inductive Gr (g : Heap) (L : Addr) (hk : Heap) (X : List Addr) (x : Addr) : List (Addr × Obj) → List (Addr × Obj) → Prop where
  | rest : Gr g L hk X x (restOf g L hk X) (restOf g L hk (x :: X))
  | keep {p : Addr × Obj} {l l' : List (Addr × Obj)} : Gr g L hk X x l l' → Gr g L hk X x (p :: l) (p :: l')
theorem Gr.sub {g hk : Heap} {L x : Addr} {X : List Addr} {l l' : List (Addr × Obj)} (R : Gr g L hk X x l l') : ∀ p ∈ l', p ∈ l := by
  induction R with
  | rest =>
    intro p hp
    have q := mem_restOf.mp (show (p.1, p.2) ∈ restOf _ _ _ _ from hp)
    exact mem_restOf.mpr ⟨q.1, q.2.1, q.2.2.1, fun z => q.2.2.2 (.tail _ z)⟩
  | keep _ ih =>
    intro p hp
    rcases List.mem_cons.mp hp with rfl | hp
    · exact .head _
    · exact .tail _ (ih p hp)
theorem grow_k {Pr : Prop} {g hk h s0 : Heap} {L x : Addr} {X : List Addr} {o : Obj} {l l' : List (Addr × Obj)} (Z : NoTup hk (L :: X)) (S : Since X L s0 hk) (N : News g L h l) (R : Gr g L hk X x l l') (e : hk.get? x = some o) (n : ∀ vs k, o ≠ tupO vs k)
    (k : NoTup hk (L :: x :: X) → Since (x :: X) L s0 hk → News g L h l' → Pr) : Pr :=
  k ⟨fun y hy => by
    rcases List.mem_cons.mp hy with rfl | hy
    · exact Z.get _ (.head _)
    · rcases List.mem_cons.mp hy with rfl | hy
      · exact ⟨o, e, n⟩
      · exact Z.get _ (.tail _ hy)⟩ (since_more S) (News.less N R.sub)
theorem lines_56 : True := by
  k_with "own mine gr" => first | exact Gr.rest | (refine' Gr.keep ?a_145; (case a_145 => walk_at "mine gr"))
  k_with "own call ref" => (k_here; (with_reducible show wpAny _ _ (call (Value.ref 99) _) _ _ _); k_dflt (refine' Does.use (row_ok _ _ _ _ _ _ _ _ _ _) ?kB ?kF ?kX ?kT ?kk ?km_146 ?kp_146 ?kd ?ku ?_; walk_at "mine use"; (case kp_146 => trivial); (case km_146 => walk_at "mine own"); walk_at "mine room"); intro r' h' tk' F' K' P'; obtain ⟨x', xd', e', fx', fd', ro'⟩ := P'; subst e'; obtain @⟨_, _, _, _, _, _, _, _, _, hx', hz'⟩ := ro'; have nw1' := rest_of_fresh (by k_asm) fx' hx'; have nw2' := rest_of_fresh (by k_asm) fd' hz'; have nx' := neN (at_ne hx' hz' (dne rfl)); have of1' := off2_fresh fx' (by k_asm); have of2' := off2_fresh fd' (by k_asm); walk_at "mine after"; (rename News _ _ _ _ => kNm); refine made_k nw1' nw2' hx' hz' kNm ?_; clear fx' fd' kNm; intro kNm; (try k_sweep))
  k_with "own call ref" => (k_here; (with_reducible show wpAny _ _ (call (Value.ref 190) _) _ _ _); k_dflt (refine' Does.use (port_ok _ _ _ _ _ _ _ _ _ _ _ _ ) ?kB ?kF ?kX ?kT ?kk ?km_147 ?kp_147 ?kd ?ku ?_; walk_at "mine use"; (case kp_147 => exact ⟨by walk_at "mine pair", by walk_at "mine row"⟩); (case km_147 => walk_at "mine own"); walk_at "mine room"); intro r' h' tk' F' K' P'; obtain ⟨x', xd', e', fx', fd', po'⟩ := P'; subst e'; have fr2' := fresh_since (by k_asm) (by walk_at "mine kept") (by walk_at "mine notup") fd'; obtain @⟨es', av', pv', hx', hz', pe', ia', ib'⟩ := PortAt.out po'; have nw1' := rest_of_fresh (by k_asm) fx' hx'; have nw2' := rest_of_fresh (by k_asm) fd' hz'; have nx' := neN (at_ne hx' hz' (dne rfl)); have of1' := off2_fresh fx' (by k_asm); have of2' := off2_fresh fd' (by k_asm); walk_at "mine anew"; (rename News _ _ _ _ => kNm); (with_reducible rename NoTup _ _ => kZ); (with_reducible rename Since _ _ _ _ => kS); refine grow_k kZ kS kNm (by walk_at "mine gr") hz' dict_noTup ?_; clear kZ kS kNm; intro kZ2 kS2 kNm; refine made_k nw1' nw2' hx' hz' kNm ?_; clear fx' fd' kNm; intro kNm; (try k_sweep))
  k_with "own eval ListComp" => (k_here; (with_reducible show wpAny _ _ (eval (Expr.ListComp _ [⟨_, Expr.Call (Expr.Name (Str.ofString "range") _) _ _ _, _, _⟩] _ _) _) _ _ _); k_dflt (refine LCg.ListComp_U (F₀ := by k_asm) (by with_unfolding_all rfl) (by decide) (by rfl) (by decide) (by rfl) ?_))
  k_with "own CompRest" => (with_unfolding_all (refine LCg.CompRest.succ ?_; intro v' I' oI' C' oC' D' m' h' tk' E' hv' hC' hx' F' N' off' ne'; (obtain ⟨t9', hv9'⟩ := hv'; subst hv9'); have off2' := off'; (try simp only [LCg.Off3, and_true] at off2')))
  k_with "own CompEnd" => (k_here; k_dflt (refine LCg.CompEnd.intro (by k_asm) (by k_asm) _ (fun p hp => hp) (by assumption) trivial ?_))
  trivial

-- text Zc
theorem text_Zc : True := by
  w_top off
  trivial
section
open PyProof.Rows.LCg
variable {prog : Program} {w : World} {A : Around} {E : Value → Shared → Prop} {s : Shared} {h₀ : Heap} {L : Addr} {m : Str → Option Value} {env : Env}
theorem off1_of {D : Addr} : ∀ {l : List (Addr × Obj)}, (∀ p ∈ l, p.1 ≠ D) → Off1 D l
  | [], _ => trivial
  | _ :: _, h => ⟨h _ List.mem_cons_self, off1_of fun p hp => h p (List.mem_cons_of_mem _ hp)⟩
/-- those of the first list at which the second says so -/
def picked : List Value → List Bool → List Value
  | x :: r, b :: q => (if b then [x] else []) ++ picked r q
  | _, _ => []
theorem picked_len : ∀ (xs : List Value) (bs : List Bool), (picked xs bs).length ≤ xs.length
  | [], _ => Nat.le_refl _
  | _ :: _, [] => Nat.zero_le _
  | x :: r, b :: q => by
    have := picked_len r q
    cases b
    · simp only [picked, Bool.false_eq_true, if_false, List.nil_append, List.length_cons]; omega
    · simp only [picked, if_true, List.length_append, List.length_cons, List.length_nil]; omega
theorem picked_take : ∀ (xs : List Value) (bs : List Bool) (i : Nat) (x : Value) (b : Bool), xs[i]? = some x → bs[i]? = some b → picked (xs.take (i + 1)) (bs.take (i + 1)) = picked (xs.take i) (bs.take i) ++ (if b then [x] else [])
  | [], _, _, _, _, h, _ => by simp at h
  | _ :: _, [], _, _, _, _, h => by simp at h
  | y :: r, c :: q, 0, x, b, h, h' => by
    obtain rfl : y = x := by simpa using h
    obtain rfl : c = b := by simpa using h'
    simp [picked]
  | y :: r, c :: q, i + 1, x, b, h, h' => by
    have := picked_take r q i x b (by simpa using h) (by simpa using h')
    simp only [List.take_succ_cons, picked] at this ⊢
    rw [this, List.append_assoc]

abbrev ZipSt (h : Heap) (z TI TO i1 i2 l1 l2 : Addr) (xs ys : Array Value) (i : Nat) : Prop :=
  IsZip h z TI TO .none ∧ IsPair h TI (.ref i1) (.ref i2) ∧ (∃ a b, IsPair h TO a b) ∧ h.IsListIter i1 l1 i ∧ h.IsListIter i2 l2 i ∧ h.IsList l1 xs ∧ h.IsList l2 ys

/-- what stands ahead of the turns -/
structure ZipAt (A : Around) (h₀ : Heap) (L : Addr) (m : Str → Option Value) (Q : Value → Shared → Prop) (xv : Value) (s₁ : Shared) : Prop where
  get : ∃ (z TI TO i1 i2 l1 l2 : Addr) (xs : List Value) (bs : List Bool) (news : List (Addr × Obj)), xv = .ref z ∧ A.handled = none ∧ Fr h₀ L s₁.heap m ∧ News h₀ L s₁.heap news ∧ ZipApart z TI TO i1 i2 l1 l2 ∧
    ZipSt s₁.heap z TI TO i1 i2 l1 l2 xs.toArray (bs.map Value.bool).toArray 0 ∧ (∀ x ∈ [z, TO, i1, i2], L ≠ x ∧ h₀.get? x = none ∧ ∀ p ∈ news, p.1 ≠ x) ∧ xs.length = bs.length ∧ xs.length ≤ 100 ∧
    ∀ D h tk, Fr h₀ L h m → News h₀ L h ((D, lst (picked xs bs)) :: news) → Off1 D news → Q (.ref D) { s₁ with heap := h, toks := tk }

theorem zip_call {l1 l2 : Addr} {xs : List Value} {bs : List Bool} {n1 n2 : Nat} {news : List (Addr × Obj)} {Q : Value → Shared → Prop} (hh : A.handled = none) (F : Fr h₀ L s.heap m) (N : News h₀ L s.heap news)
    (m1 : (l1, ({ cls := .type "list", data := .seq xs.toArray n1 } : Obj)) ∈ news) (m2 : (l2, ({ cls := .type "list", data := .seq (bs.map Value.bool).toArray n2 } : Obj)) ∈ news) (hl : xs.length = bs.length) (h100 : xs.length ≤ 100)
    (k : ∀ D h tk, Fr h₀ L h m → News h₀ L h ((D, lst (picked xs bs)) :: news) → Off1 D news → Q (.ref D) { s with heap := h, toks := tk }) :
    wpAny (model prog w) A (call (.type "zip") [.ref l1, .ref l2]) (ZipAt A h₀ L m Q) E s := by
  have q1 : s.heap.IsList l1 xs.toArray := ⟨_, (N _ m1).1, rfl, _, rfl⟩
  have q2 : s.heap.IsList l2 (bs.map Value.bool).toArray := ⟨_, (N _ m2).1, rfl, _, rfl⟩
  have a1 : l1 < s.heap.objs.size := Heap.lt_size (N _ m1).1
  have a2 : l2 < s.heap.objs.size := Heap.lt_size (N _ m2).1
  refine call_zip_2 q1 q2 fun h' hz hTI hTO hi1 hi2 _ hk => ⟨_, _, _, _, _, _, _, xs, bs, news, rfl, hh, F.keeps hk, N.grown hk, zipApart_new a1 a2, ⟨hz, hTI, ⟨_, _, hTO⟩, hi1, hi2, q1.at fun o e => hk _ o e, q2.at fun o e => hk _ o e⟩, fun x hx => ?_, hl, h100, k⟩
  have hx : s.heap.objs.size ≤ x := by
    simp only [List.mem_cons, List.not_mem_nil, or_false] at hx
    rcases hx with rfl | rfl | rfl | rfl
    · exact Nat.le_add_right _ 4
    · exact Nat.le_add_right _ 3
    · exact Nat.le_refl _
    · exact Nat.le_add_right _ 1
  refine ⟨Nat.ne_of_lt (Nat.lt_of_lt_of_le F.ns.lt hx), ?_, fun p hp => Nat.ne_of_lt (Nat.lt_of_lt_of_le (Heap.lt_size (N p hp).1) hx)⟩
  cases e : h₀.get? x with
  | none => rfl
  | some o => exact absurd (Heap.lt_size (F.keep _ _ e)) (Nat.not_lt.mpr hx)

theorem ListComp_zip {iter : Expr} {a b : Str} {pa pb pe pt tp : Pos} {kk : Nat} {scope : Scope} {cl : List (Str × Addr)} {pos : Pos} {Q : Value → Shared → Prop}
    (hclos : closureFor scope env = pure cl) (hcell : ∀ y ∈ scope.names, y.2 ≠ .cell) (hkind : scope.kind = .function)
    (hnames : ∀ y ∈ scope.names, y.2 = .local → scope.names.lookup y.1 = some .local) (hxa : scope.names.lookup a = some .local) (hxb : scope.names.lookup b = some .local) (hab : ¬ a = b)
    (da : (a == ("__debug__" : Str)) = false) (db : (b == ("__debug__" : Str)) = false)
    (h : wpAny (model prog w) A (eval iter env) (ZipAt A h₀ L m Q) E s)
    (hs : ∀ x, foldedSetIterable iter env x = pure x := by intro _; rfl) :
    wpAny (model prog w) A (eval (.ListComp (.Name a pe) [⟨.Tuple [.Name a pa, .Name b pb] kk tp, iter, [.Name b pt], 0⟩] scope pos) env) Q E s := by
  rw [eval_ListComp]
  refine wpAny_comprehension_free (use := none) rfl hs hclos hkind hnames (wpAny_mono h (fun xv s₂ h₁ => ?_) fun _ _ e => e)
  obtain ⟨z, TI, TO, i1, i2, l1, l2, xs, bs, news, rfl, hh, F, N, D, hst, offz, hl, h100, fin⟩ := h₁.get
  refine PySem.wpAny_pyIter_zip hst.1 ?_
  refine wpAny_newObj_type (wpAny_newFunctionEnv hcell (by intro y hy; simp at hy) (fun h₁ hns₁ hsb₁ => ?_) hkind)
  dsimp only at hns₁ hsb₁ ⊢
  generalize hH2 : s₂.heap.push { cls := .type "list", dict := none, data := .seq ([] : List Value).toArray } = H2 at hns₁ hsb₁ ⊢
  have hC : H2.objs.size = s₂.heap.objs.size + 1 := by rw [← hH2, Heap.size_push]
  have hDC : s₂.heap.objs.size ≠ H2.objs.size := by rw [hC]; exact Nat.ne_of_lt (Nat.lt_succ_self _)
  have below : ∀ b, b < s₂.heap.objs.size → b ≠ H2.objs.size ∧ b ≠ s₂.heap.objs.size := fun b hb => ⟨by rw [hC]; exact Nat.ne_of_lt (Nat.lt_succ_of_lt hb), Nat.ne_of_lt hb⟩
  have old : ∀ b o, s₂.heap.get? b = some o → h₁.get? b = some o := fun b o e => hsb₁.extBut b o (below b (Heap.lt_size e)).1 (Heap.get?_push_of_some _ (hH2 ▸ Heap.get?_push_of_some _ e))
  have hacc : h₁.get? s₂.heap.objs.size = some (lst []) := hsb₁.extBut _ _ hDC (Heap.get?_push_of_some _ (hH2 ▸ Heap.get?_push_size _ rfl))
  have W := WalksT.zip2 (prog := prog) (w := w) hh z TI TO i1 i2 l1 l2 D xs.toArray (bs.map Value.bool).toArray
  have hmin : min xs.toArray.size (bs.map Value.bool).toArray.size = xs.length := by simp [hl]
  rw [hmin] at W
  have hfp : ∀ x ∈ [z, TI, TO, i1, i2, l1, l2], x < s₂.heap.objs.size := by
    obtain ⟨e1, e2, ⟨_, _, e3⟩, ⟨_, e4, _⟩, ⟨_, e5, _⟩, ⟨_, e6, _⟩, ⟨_, e7, _⟩⟩ := hst
    intro x hx
    simp only [List.mem_cons, List.not_mem_nil, or_false] at hx
    rcases hx with rfl | rfl | rfl | rfl | rfl | rfl | rfl
    · exact Heap.lt_size e1
    · exact Heap.lt_size e2
    · exact Heap.lt_size e3
    · exact Heap.lt_size e4
    · exact Heap.lt_size e5
    · exact Heap.lt_size e6
    · exact Heap.lt_size e7
  have hwr : ∀ x ∈ [z, TO, i1, i2], x < s₂.heap.objs.size := fun x hx => hfp x (W.sub x hx)
  have hst₁ : ZipSt h₁ z TI TO i1 i2 l1 l2 xs.toArray (bs.map Value.bool).toArray 0 := W.frame 0 _ _ hst fun b _ o e => old b o e
  have fresh : ∀ a, s₂.heap.objs.size ≤ a → s₂.heap.get? a = none := fun a ha => by
    cases e : s₂.heap.get? a with
    | none => rfl
    | some o' => exact absurd (Heap.lt_size e) (Nat.not_lt.mpr ha)
  have fresh₀ : ∀ a, s₂.heap.objs.size ≤ a → h₀.get? a = none := fun a ha => by
    cases e : h₀.get? a with
    | none => rfl
    | some o' => have := F.keep a o' e; rw [fresh a ha] at this; cases this
  have hD₀ : h₀.get? s₂.heap.objs.size = none := fresh₀ _ (Nat.le_refl _)
  have hC₀ : h₀.get? H2.objs.size = none := fresh₀ _ (by rw [hC]; exact Nat.le_succ _)
  have hLlt : L < s₂.heap.objs.size := F.ns.lt
  have hDL : s₂.heap.objs.size ≠ L := Ne.symm (below L hLlt).2
  have hCL : H2.objs.size ≠ L := Ne.symm (below L hLlt).1
  have hDw : s₂.heap.objs.size ∉ [z, TO, i1, i2] := fun hm => Nat.lt_irrefl _ (hwr _ hm)
  have hCw : H2.objs.size ∉ [z, TO, i1, i2] := fun hm => by have := hwr _ hm; rw [hC] at this; exact Nat.lt_irrefl _ (Nat.lt_of_succ_lt this)
  have hCf : H2.objs.size ∉ [z, TI, TO, i1, i2, l1, l2] := fun hm => by have := hfp _ hm; rw [hC] at this; exact Nat.lt_irrefl _ (Nat.lt_of_succ_lt this)
  have hDf : s₂.heap.objs.size ∉ [z, TI, TO, i1, i2, l1, l2] := fun hm => Nat.lt_irrefl _ (hfp _ hm)
  have hLw : L ∉ [z, TO, i1, i2] := fun hm => (offz _ hm).1 rfl
  have h₀w : ∀ {x : Addr} {o : Obj}, h₀.get? x = some o → x ∉ [z, TO, i1, i2] := fun e hm => by rw [(offz _ hm).2.1] at e; cases e
  have nw : ∀ p ∈ news, p.1 ∉ [z, TO, i1, i2] := fun p hp hm => (offz _ hm).2.2 p hp rfl
  have nC : ∀ p ∈ news, p.1 ≠ H2.objs.size ∧ p.1 ≠ s₂.heap.objs.size := fun p hp => below _ (Heap.lt_size (N p hp).1)
  have loop : ∀ s₃ : Shared, s₃ = { s₂ with heap := h₁, toks := s₂.toks + ([] : List (Str × Value)).length } →
      codeAny (model prog w) A (.compLoop (.ListComp (.Name a pe) [⟨.Tuple [.Name a pa, .Name b pb] kk tp, iter, [.Name b pt], 0⟩] scope pos) 0 (.ref z) (.ref s₂.heap.objs.size) (compEnvC scope cl H2.objs.size env))
        (compPost (model prog w) A E none Q (.ref s₂.heap.objs.size) H2.objs.size) s₃ := by
    rintro s₃ rfl
    refine kct_loop
      (fun k s' => ∃ h' tk i m', s' = { s₂ with heap := h', toks := tk } ∧ i ≤ xs.length ∧ k = xs.length + 1 - i ∧ ZipSt h' z TI TO i1 i2 l1 l2 xs.toArray (bs.map Value.bool).toArray i ∧ Fr h₀ L h' m ∧ h'.Ns H2.objs.size m' ∧
        News h₀ L h' ((s₂.heap.objs.size, lst (picked (xs.take i) (bs.take i))) :: news)) ?_ (xs.length + 1)
      ⟨h₁, _, 0, _, rfl, Nat.zero_le _, rfl, hst₁, F.keeps old, hns₁, fun p hp => ?_⟩
    · rintro k s' ⟨h', tk, i, m', rfl, hi, rfl, hst', F', hn', N'⟩
      by_cases hlt : i < xs.length
      · refine W.item i _ _ _ hlt hst' fun T vals h₂ tk₂ hP hsz hT hMd hk₂ => ?_
        refine W.go _ _ _ i T _ _ _ hMd fun h₃ hst₃ hk₃ => ?_
        obtain ⟨x, y, hx, hy, rfl⟩ := hP
        have hx : xs[i]? = some x := by simpa using hx
        have hy : (bs.map Value.bool)[i]? = some y := by simpa using hy
        obtain ⟨c, hc, rfl⟩ : ∃ c, bs[i]? = some c ∧ y = .bool c := by
          rw [List.getElem?_map] at hy
          cases q : bs[i]? with
          | none => rw [q] at hy; cases hy
          | some c => rw [q] at hy; exact ⟨c, rfl, (Option.some.inj hy).symm⟩
        have hT₃ : h₃.IsTuple T #[x, .bool c] := by
          obtain ⟨o, e, r⟩ := hT
          exact ⟨o, hk₃ _ _ (W.apart _ _ _ hMd) e, r⟩
        have up₃ : ∀ c o, c ∉ [z, TO, i1, i2] → h'.get? c = some o → h₃.get? c = some o := fun c o hc e => hk₃ c o hc (hk₂ c o hc e)
        refine kcp_assign (env := compEnvC scope cl H2.objs.size env) hh hT₃ (lookup_relabel_local hxa) (lookup_relabel_local hxb) (by simp [compEnvC, relabel, hkind]) (hn'.at' fun o e => up₃ _ o hCw e) fun h₄ tk₄ hn₄ hs₄ => ?_
        have up : ∀ c o, c ∉ [z, TO, i1, i2] → c ≠ H2.objs.size → h'.get? c = some o → h₄.get? c = some o := fun c o h1 h2 e => hs₄ c o h2 (up₃ c o h1 e)
        have F₄ : Fr h₀ L h₄ m := ⟨F'.ns.at' fun o e => up _ o hLw (Ne.symm hCL) e, fun c o e => up c o (h₀w e) (fun q => by rw [q, hC₀] at e; cases e) (F'.keep c o e), F'.above⟩
        have st₄ : ZipSt h₄ z TI TO i1 i2 l1 l2 xs.toArray (bs.map Value.bool).toArray (i + 1) := W.frame _ _ _ hst₃ fun q hq o e => hs₄ q o (fun (hq' : q = H2.objs.size) => hCf (hq' ▸ hq)) e
        have N₄ : News h₀ L h₄ ((s₂.heap.objs.size, lst (picked (xs.take i) (bs.take i))) :: news) := fun q hq => by
          have zz := N' q hq
          rcases List.mem_cons.mp hq with rfl | hq
          · exact ⟨up _ _ hDw hDC zz.1, zz.2⟩
          · exact ⟨up _ _ (nw q hq) (nC q hq).1 zz.1, zz.2⟩
        have ek : (compEnvC scope cl H2.objs.size env).scope.kind = .function := by simp [compEnvC, relabel, hkind]
        refine isTrue_plain ?_
        refine wpAny_Name (wpAny_loadName_local ek (lookup_relabel_local hxb) hn₄ (v := .bool c) (by simp) ?_) db
        refine wpAny_truthy_bool ?_
        cases c with
        | false =>
          simp only [Bool.false_eq_true, if_false]
          refine ⟨xs.length + 1 - (i + 1), by omega, h₄, _, i + 1, _, rfl, hlt, rfl, st₄, F₄, hn₄, ?_⟩
          rw [picked_take xs bs i x false hx hc]
          simpa using N₄
        | true =>
          simp only [if_true]
          refine wpAny_Name (wpAny_loadName_local ek (lookup_relabel_local hxa) hn₄ (v := x) (by simp [hab]) ?_) da
          have hsz5 : (picked (xs.take i) (bs.take i)).length ≤ sizeLine := Nat.le_trans (picked_len _ _) (Nat.le_trans (by rw [List.length_take]; exact Nat.min_le_right _ _) (Nat.le_trans h100 (by rw [PySem.sizeLine_eq]; exact Nat.le_of_ble_eq_true rfl)))
          refine append_at (hsz := by simpa using hsz5) (N₄ _ List.mem_cons_self).1 fun h₅ hs₅ hD₅ => ?_
          refine ⟨xs.length + 1 - (i + 1), by omega, h₅, _, i + 1, _, rfl, hlt, rfl, W.frame _ _ _ st₄ fun q hq o e => hs₅.extBut q o (fun (hq' : q = s₂.heap.objs.size) => hDf (hq' ▸ hq)) e, F₄.change hs₅ hDL hD₀, hn₄.sameBut hs₅ (Ne.symm hDC), fun q hq => ?_⟩
          rw [picked_take xs bs i x true hx hc] at hq
          rcases List.mem_cons.mp hq with rfl | hq
          · exact ⟨hD₅.trans (congrArg some (lst_snoc _ x)), hDL, hD₀⟩
          · have zz := N₄ q (List.mem_cons_of_mem _ hq)
            exact ⟨hs₅.extBut _ _ (nC q hq).2 zz.1, zz.2⟩
      · have hin : i = xs.length := Nat.le_antisymm hi (Nat.not_lt.mp hlt)
        subst hin
        refine W.done _ _ _ hst' fun h₂ tk₂ hk₂ => ?_
        rw [List.take_length, show bs.take xs.length = bs by rw [hl, List.take_length]] at N'
        have N₂ : News h₀ L h₂ ((s₂.heap.objs.size, lst (picked xs bs)) :: news) := fun q hq => by
          have zz := N' q hq
          rcases List.mem_cons.mp hq with rfl | hq
          · exact ⟨hk₂ _ _ hDw zz.1, zz.2⟩
          · exact ⟨hk₂ _ _ (nw q hq) zz.1, zz.2⟩
        have F₂ : Fr h₀ L h₂ m := ⟨F'.ns.at' fun o e => hk₂ _ o hLw e, fun c o e => hk₂ c o (h₀w e) (F'.keep c o e), F'.above⟩
        refine ⟨m', hn'.at' fun o e => hk₂ _ o hCw e, fun h'' hs'' => fin _ h'' _ (F₂.change hs'' hCL hC₀) (fun q hq => ?_) ?_⟩
        · have zz := N₂ q hq
          refine ⟨hs''.extBut _ _ ?_ zz.1, zz.2⟩
          rcases List.mem_cons.mp hq with rfl | hq
          · exact hDC
          · exact (nC q hq).1
        · exact Mine.off1_of fun q hq => (nC q hq).2
    · rcases List.mem_cons.mp hp with rfl | hp
      · exact ⟨hacc, hDL, hD₀⟩
      · exact ⟨old _ _ (N p hp).1, (N p hp).2⟩
  exact codeAny_compStart_list (loop _ rfl) (W.self 0 _ _ _ hst₁ (loop _ rfl))
end

-- text CellF
theorem text_CellF : True := by
  w_top off
  trivial
theorem lines_57 : True := by
  k_with "own CompSrc" => (k_here; k_dflt (refine LCg.CompSrc.range (n := 3) (by rfl) (by k_asm) (by k_asm) (by assumption) (by decide) (by rfl) (by exact Nat.le_of_ble_eq_true rfl) ?_; intro g'))
  k_with "own CompEnd" => (k_here; k_dflt (refine LCg.CompEnd.intro (by k_asm) (by k_asm) _ (fun p hp => hp) (by with_unfolding_all assumption) trivial ?_))
  trivial

theorem zip_use {prog : Program} {w : World} {A : Around} {E : Value → Shared → Prop} {s : Shared} {h₀ : Heap} {L : Addr} {m : Str → Option Value} {env : Env} {iter : Expr} {a b : Str} {pa pb pe pt tp : Pos} {kk : Nat} {scope : Scope} {cl : List (Str × Addr)} {pos : Pos} {Q : Value → Shared → Prop}
    (_F : Fr h₀ L s.heap m) (hclos : closureFor scope env = pure cl) (hcell : ∀ y ∈ scope.names, y.2 ≠ .cell) (hkind : scope.kind = .function)
    (hnames : ∀ y ∈ scope.names, y.2 = .local → scope.names.lookup y.1 = some .local) (hxa : scope.names.lookup a = some .local) (hxb : scope.names.lookup b = some .local) (hab : ¬ a = b)
    (da : (a == ("__debug__" : Str)) = false) (db : (b == ("__debug__" : Str)) = false)
    (h : wpAny (model prog w) A (eval iter env) (ZipAt A h₀ L m Q) E s)
    (hs : ∀ x, foldedSetIterable iter env x = pure x := by intro _; rfl) :
    wpAny (model prog w) A (eval (.ListComp (.Name a pe) [⟨.Tuple [.Name a pa, .Name b pb] kk tp, iter, [.Name b pt], 0⟩] scope pos) env) Q E s := ListComp_zip hclos hcell hkind hnames hxa hxb hab da db h hs
theorem lines_58 : True := by
  k_with "own eval ListComp" => (k_here; (with_reducible show wpAny _ _ (eval (Expr.ListComp _ [⟨_, Expr.Call (Expr.Name (Str.ofString "zip") _) _ _ _, _, _⟩] _ _) _) _ _ _); k_dflt (refine zip_use (by k_asm) (by with_unfolding_all rfl) (by decide) (by rfl) (by decide) (by rfl) (by rfl) (by decide +kernel) (by decide +kernel) (by decide +kernel) ?_))
  trivial

theorem picked_ints {a0 a1 a2 : Int} {t0 t1 t2 : Tok} (b0 b1 b2 : Bool) : IntsAre (picked [.int a0 t0, .int a1 t1, .int a2 t2] [b0, b1, b2]) ((if b0 then [a0] else []) ++ (if b1 then [a1] else []) ++ (if b2 then [a2] else [])) := by
  cases b0 <;> cases b1 <;> cases b2
  · exact .nil
  · exact .cons _ _ .nil
  · exact .cons _ _ .nil
  · exact .cons _ _ (.cons _ _ .nil)
  · exact .cons _ _ .nil
  · exact .cons _ _ (.cons _ _ .nil)
  · exact .cons _ _ (.cons _ _ .nil)
  · exact .cons _ _ (.cons _ _ (.cons _ _ .nil))
structure PickI (ns : List Int) (a0 a1 a2 : Int) (b0 b1 b2 : Bool) : Prop where
  eq : ns = (if b0 then [a0] else []) ++ (if b1 then [a1] else []) ++ (if b2 then [a2] else [])
theorem pick_len {a0 a1 a2 : Int} (b0 b1 b2 : Bool) : ((if b0 then [a0] else []) ++ (if b1 then [a1] else []) ++ (if b2 then [a2] else [])).length ≤ 3 := by cases b0 <;> cases b1 <;> cases b2 <;> simp
theorem zip_call3 {prog : Program} {w : World} {A : Around} {E : Value → Shared → Prop} {s : Shared} {h₀ : Heap} {L : Addr} {m : Str → Option Value} {l1 l2 : Addr} {a0 a1 a2 : Int} {t0 t1 t2 : Tok} {b0 b1 b2 : Bool} {n1 n2 : Nat} {news : List (Addr × Obj)} {Q : Value → Shared → Prop} (hh : A.handled = none) (F : Fr h₀ L s.heap m) (N : News h₀ L s.heap news)
    (m1 : (l1, ({ cls := .type "list", data := .seq [.int a0 t0, .int a1 t1, .int a2 t2].toArray n1 } : Obj)) ∈ news) (m2 : (l2, ({ cls := .type "list", data := .seq [.bool b0, .bool b1, .bool b2].toArray n2 } : Obj)) ∈ news)
    (k : ∀ ys ns D h tk, IntsAre ys ns → ns.length ≤ 3 → PickI ns a0 a1 a2 b0 b1 b2 → Fr h₀ L h m → News h₀ L h ((D, LCg.lst ys) :: news) → LCg.Off1 D news → Q (.ref D) { s with heap := h, toks := tk }) :
    wpAny (model prog w) A (call (.type "zip") [.ref l1, .ref l2]) (ZipAt A h₀ L m Q) E s := zip_call (bs := [b0, b1, b2]) hh F N m1 m2 rfl (by simp) fun D h tk => k _ _ D h tk (picked_ints b0 b1 b2) (pick_len b0 b1 b2) ⟨rfl⟩
theorem lines_59 : True := by
  k_with "own call type:zip" => (k_here; (with_reducible show wpAny _ _ (call (Value.type _) [Value.ref _, Value.ref _]) (ZipAt _ _ _ _ _) _ _); k_dflt (refine' zip_call3 ?hh_154 ?F_154 ?N_154 ?m1_154 ?m2_154 ?_; (case hh_154 => exact rfl); (case F_154 => k_asm); (case N_154 => k_asm); (case m1_154 => k_mem); (case m2_154 => k_mem)); intro ys' ns' D' h' tk' hys' hln' hpk' F' N' o1'; have o2' := o1'; (simp only [LCg.Off1] at o2'); (try k_sweep))
  trivial

section
variable {prog : Program} {w : World} {A : Around} {E : Value → Shared → Prop} {s : Shared} {h₀ : Heap} {L v : Addr} {news : List (Addr × Obj)} {a b c : Value} {n : Nat} {u : Tok} {value slice : PySem.Expr} {Q : Value → Shared → Prop}
theorem way_get0 (N : News h₀ L s.heap news) (hm : (v, listOf [a, b, c].toArray n) ∈ news) (h : Q a s)
    (hs : subscripted slice false (.ref v) (.int 0 u) = operate [.ref v, .int 0 u] (getItem (.ref v) (.int 0 u))) : wpAny (model prog w) A (subscriptTail value slice (.ref v) (.int 0 u)) Q E s :=
  have hl : s.heap.IsList v #[a, b, c] := PySem.IsL.isList (n := n) (N _ hm).1
  tail_any hl.typeIs slot_list_getitem.lookup (wpAny_getItem_list hl (by decide) (by decide) (x := a) rfl h) hs
theorem way_get1 (N : News h₀ L s.heap news) (hm : (v, listOf [a, b, c].toArray n) ∈ news) (h : Q b s)
    (hs : subscripted slice false (.ref v) (.int 1 u) = operate [.ref v, .int 1 u] (getItem (.ref v) (.int 1 u))) : wpAny (model prog w) A (subscriptTail value slice (.ref v) (.int 1 u)) Q E s :=
  have hl : s.heap.IsList v #[a, b, c] := PySem.IsL.isList (n := n) (N _ hm).1
  tail_any hl.typeIs slot_list_getitem.lookup (wpAny_getItem_list hl (by decide) (by decide) (x := b) rfl h) hs
theorem way_get2 (N : News h₀ L s.heap news) (hm : (v, listOf [a, b, c].toArray n) ∈ news) (h : Q c s)
    (hs : subscripted slice false (.ref v) (.int 2 u) = operate [.ref v, .int 2 u] (getItem (.ref v) (.int 2 u))) : wpAny (model prog w) A (subscriptTail value slice (.ref v) (.int 2 u)) Q E s :=
  have hl : s.heap.IsList v #[a, b, c] := PySem.IsL.isList (n := n) (N _ hm).1
  tail_any hl.typeIs slot_list_getitem.lookup (wpAny_getItem_list hl (by decide) (by decide) (x := c) rfl h) hs
end
theorem lines_60 : True := by
  k_with "own subscriptTail Name Constant ref int" => (k_here; (with_reducible show wpAny _ _ (subscriptTail (Expr.Name (Str.ofString "ways") _) _ (Value.ref _) (Value.int 0 _)) _ _ _); k_dflt (refine' way_get0 ?N_155 ?m_155 ?_ ?s_155; (case N_155 => k_asm); (case m_155 => k_mem); (case s_155 => walk_at "mine hs")))
  k_with "own subscriptTail Name Constant ref int" => (k_here; (with_reducible show wpAny _ _ (subscriptTail (Expr.Name (Str.ofString "ways") _) _ (Value.ref _) (Value.int 1 _)) _ _ _); k_dflt (refine' way_get1 ?N_156 ?m_156 ?_ ?s_156; (case N_156 => k_asm); (case m_156 => k_mem); (case s_156 => walk_at "mine hs")))
  k_with "own subscriptTail Name Constant ref int" => (k_here; (with_reducible show wpAny _ _ (subscriptTail (Expr.Name (Str.ofString "ways") _) _ (Value.ref _) (Value.int 2 _)) _ _ _); k_dflt (refine' way_get2 ?N_157 ?m_157 ?_ ?s_157; (case N_157 => k_asm); (case m_157 => k_mem); (case s_157 => walk_at "mine hs")))
  trivial

inductive JA (w : World) (g : Heap) (L : Addr) (oc : Obj) (src : Addr) (s : Shared) (s' : Shared) : Prop where
  | mk {h : Heap} {tk : Nat} {m : Str → Option Value} {r dr ws pv : Addr} {a b num prio key : Int} {za zs zm : Bool} {n : Nat} : s' = { s with heap := h, toks := tk } → Fr g L h m →
      m (Str.ofString "system") = some (.ref pv) → m (Str.ofString "ways") = some (.ref ws) → m (Str.ofString "row") = some (.ref r) → RowAt w h r dr num prio key za zs zm → PairAt h pv a b → h.get? ws = some (listOf [.bool za, .bool zs, .bool zm].toArray n) → SrcAt h src →
      (∀ x ∈ [r, dr, ws, src], NewAt g L h x) → h.get? (L + 1) = some oc → g.get? (L + 1) = none → (@Ne Nat src ws) → Since [src] L s.heap h → JA w g L oc src s s'
theorem Fr.names3 {g h : Heap} {L : Addr} {m : Str → Option Value} {x y z : Str} {a b c : Value} (F : Fr g L h m) (e1 : m x = some a) (e2 : m y = some b) (e3 : m z = some c) : Fr g L h (fun q => if q = x then some a else if q = y then some b else if q = z then some c else m q) := by
  have e : m = fun q => if q = x then some a else if q = y then some b else if q = z then some c else m q := by
    funext q
    by_cases h1 : q = x
    · rw [if_pos h1, h1, e1]
    · rw [if_neg h1]
      by_cases h2 : q = y
      · rw [if_pos h2, h2, e2]
      · rw [if_neg h2]
        by_cases h3 : q = z
        · rw [if_pos h3, h3, e3]
        · rw [if_neg h3]
  rw [← e]
  exact F
theorem rest_lt {g hk : Heap} {L d : Addr} {X : List Addr} {news : List (Addr × Obj)} (l1 : ∀ p ∈ news, p.1 < d) (sub : ∀ p ∈ restOf g L hk X, p ∈ news) : ∀ p ∈ restOf g L hk X, p.1 ≠ d := fun p hp => Nat.ne_of_lt (l1 p (sub p hp))
local macro_rules | `(tactic| k_all) => `(tactic| with_reducible assumption)
theorem lines_61 : True := by
  k_with "own eval Dict" => (k_here; k_dflt (refine' kdn_str ?q_158 ?F_158 ?N_158 ?b_158 ?a_158 ?l_158 ?e_158 ?n_158 ?_; (case q_158 => rfl); (case F_158 => k_asm); (case N_158 => k_asm); (case b_158 => exact Top.nolimit (by k_asm)); (case a_158 => rfl); (case l_158 => rfl); (case e_158 => exact List.cons_ne_nil _ _); (case n_158 => exact Nat.le_of_ble_eq_true rfl)); intro d' h' o' F' N' l1 lo' hd'; k_dflt (have hnr' := rest_lt l1 (by walk_at "mine sub")); (try k_lt l1))
  k_with "own KdnMade" => (k_here; k_dflt (refine' kdn_made_str ?F_159 ?N_159 ?U_159 ?d_159 ?k_159 ?n_159 ?_; (case F_159 => k_asm); (case N_159 => k_asm); (case U_159 => k_updF); (case d_159 => k_asm); (case k_159 => rfl); (case n_159 => exact of_decide_eq_true (by kernel_rfl!))); intro h' o' F' N' hd'; (try dsimp only at N'); (try k_sweep); (try dsimp only [strPairs] at hd'); k_dflt (refine wp_gentoks ?_); intro tk'; (try dsimp only))
  trivial

theorem fresh_new {g s0 hk hn : Heap} {L d : Addr} {X : List Addr} {l : List (Addr × Obj)} {o : Obj} (S : Since X L s0 hk) (N : News g L hn l) (hm : (d, o) ∈ l) (hr : ∀ p ∈ restOf g L hk X, p.1 ≠ d) (hX : d ∉ X) : Fresh s0 d := by
  unfold Fresh
  cases q : s0.get? d with
  | none => rfl
  | some o' => exact absurd rfl (hr (d, o') (mem_restOf.mpr ⟨S.get _ _ q (N _ hm).2.1 hX, (N _ hm).2.1, (N _ hm).2.2, hX⟩))
theorem start_match2 {row : Addr} {sa sb num prio key : Int} {za zs zm : Bool} {ns : List Int} (p : PickI ns 1 2 4 za zs zm) :
    Match (beginP ⟨row, ⟨sa, sb, key, prio, num, Builtin.bitOr (rowBits za zs zm) 64⟩, NB, Str.ofString "disabled", 0, Str.ofString "unselected", 0, false⟩)
      ⟨sa, sb, ns ++ [64, 128], Z5, [2, 16, 32], Str.ofString "expired", 3, Str.ofString "unselected", true, 1⟩ num prio key := by
  obtain ⟨rfl⟩ := p
  exact start_match za zs zm
theorem start_64 : ∀ za zs zm : Bool, hb (wb (Builtin.bitOr (rowBits za zs zm) 64) 128 true) 64 = true := by decide +kernel
theorem lines_62 : True := by
  k_with "own mine match" => ((with_reducible rename PickI _ _ _ _ _ _ _ => hPk); exact start_match2 hPk)
  trivial

-- text C16
theorem text_C16 : True := by
  w_top off
  trivial

set_option maxHeartbeats 8000000 in
theorem port_right_ok (w : World) (src : Addr) :
    Does w 329 9 [.ref src] [src] [src] (fun h => SrcAt h src) (fun h r h' => r = .bool true ∧ SrcAt h' src) := by
  have key : model PySem.Challenge.rw_xm0983_01.row.prog w = model PySem.Challenge.rw_xm0983_01.row.prog w → hd.heap_1 w.params = hd.heap_1 w.params →
      Does w 329 9 [.ref src] [src] [src] (fun h => SrcAt h src) (fun h r h' => r = .bool true ∧ SrcAt h' src) := by
    k_fill
    intro _ _
    refine' does_ofCE (binds := [(Str.ofString "source", Value.ref src)]) ?up ?dn (by decide) ?ho ?hcd ?hb ?hl ?c1 ?c2 ?c3 ?c4 ?_
    case ho => k_is
    case hcd => k_is
    case hb => walk_at "mine hb"
    case hl => exact rfl
    case c1 => exact rfl
    case c2 => exact rfl
    case c3 => exact rfl
    case c4 => decide +kernel
    case up => exact fun h h' k p => p.up k
    case dn => exact fun h h' r h'' k p => p
    intro dp un gd outer A₀ base g L s Q E mean mg mb cells B F X T NC hY hapart hE hmut hpre hd hu hret
    obtain ⟨oc, rfl, dc⟩ := CellsAre.one hY
    have AN : Anc g s.heap := ⟨fun b o e => F.keep b o e⟩
    have AK : Since [src] L s.heap s.heap := Since.refl
    have hdc := dc
    refine cut_loop (g := g) (L := L) (oc := oc) (src := src) 14 ?T2 fun hT2 => ?_
    rotate_left
    refine cut_loop (g := g) (L := L) (oc := oc) (src := src) 11 ?T1 fun hT1 => ?_
    rotate_left
    (dsimp only [loopBody, List.drop] at hT1 hT2)
    refine cut_at 15 (JJ w g L oc src s) ?S15 fun hS15 => ?_
    rotate_left
    refine cut_at 12 (JJ w g L oc src s) ?S12 fun hS12 => ?_
    rotate_left
    refine cut_at 9 (JJ w g L oc src s) ?S9 fun hS9 => ?_
    rotate_left
    refine cut_at 8 (JJ8 w g L oc src s) ?S8 fun hS8 => ?_
    rotate_left
    refine cut_at 3 (JA w g L oc src s) ?A2 fun hA2 => ?A1
    case A2 =>
      clear hT1 hT2 hS15 hS12 hS9
      dsimp only [List.drop] at hS8 ⊢
      clear AN AK F hpre NC hmut hapart hY hret
      intro s' hJ
      obtain @⟨h, tk, m, r, dr, ws, pv, sa, sb, num, prio, key, za, zs, zm, c9, hs', F, e1, e2, e3, hrow, isv, hws, hsrc, hnews, hcell, hcelln, hne0, hsince⟩ := hJ
      subst hs'
      obtain @⟨n0, n1, u0, u1, c0, hs, g0, g1, g2⟩ := hsrc
      obtain ⟨odr, hr, hdr, hro⟩ := RowAt.hide hrow
      have hback : ∀ x, Fresh h x → Fresh s.heap x := fun x f => fresh_since F hsince (.cons hs list_noTup .nil) f
      replace F := Fr.names3 (x := Str.ofString "system") (y := Str.ofString "ways") (z := Str.ofString "row") F e1 e2 e3
      replace hne0 := neN hne0
      have hne1 := neN (at_ne hr hdr (RowD.ne' hro (fun es n => dne0 rfl)))
      have hne2 := neN (at_ne hr hws (dne rfl))
      have hne3 := neN (at_ne hr hs (dne rfl))
      have hne4 := neN (at_ne hdr hws (RowD.ne hro (fun es n => dne0 rfl)))
      have hne5 := neN (at_ne hdr hs (RowD.ne hro (fun es n => dne0 rfl)))
      have hne6 := neN (at_ne hcell hr (cne dc rfl))
      have hne7 := neN (at_ne hcell hdr (RowD.ne' hro (fun es n => Ne.symm (cne dc rfl))))
      have hne8 := neN (at_ne hcell hws (cne dc rfl))
      have hne9 := neN (at_ne hcell hs (cne dc rfl))
      have AN : Anc g h := ⟨fun b o e => F.keep b o e⟩
      have AK : Since [r, dr, ws, src] L h h := Since.refl
      have NT : NoTup h [L, r, dr, ws, src] := Fr.noTup F (.cons hr inst_noTup (.cons hdr (RowD.noTup hro) (.cons hws list_noTup (.cons hs list_noTup .nil))))
      have N : News g L h ((L + 1, oc) :: (r, instObj 99 dr) :: (dr, odr) :: (ws, listOf [.bool za, .bool zs, .bool zm].toArray c9) :: (src, listOf #[.int n0 u0, .int n1 u1] c0) :: restOf g L h [r, dr, ws, src]) := News.add ⟨Nat.succ_ne_self L, hcelln, _, hcell⟩ hcell (News.add (hnews r (by k_mem)) hr (News.add (hnews dr (by k_mem)) hdr (News.add (hnews ws (by k_mem)) hws (News.add (hnews src (by k_mem)) hs rest_news))))
      with_reducible show wpAny _ _ _ _ _ _
      k_steps
      all_goals (refine' JJ8.mk rfl (by k_asm) (by with_unfolding_all rfl) (by with_unfolding_all rfl) ⟨by walk_at "mine src", by walk_at "mine port", by walk_at "mine stand", by walk_at "mine row", rfl, ?ma, (by walk_at "mine own"), (News.get (by k_asm) (by k_mem)), hcelln, (by first | assumption | k_ne), (by first | assumption | k_ne), (by first | assumption | k_ne), (by first | assumption | k_ne), (by first | assumption | k_ne), (by first | assumption | k_ne)⟩ (since_trans hsince (since_cons hws (News.get (by k_asm) (by k_mem)) (since_cons hdr (News.get (by k_asm) (by k_mem)) (since_cons hr (News.get (by k_asm) (by k_mem)) (since_drop (by assumption) (by walk_at "mine kept")))))) (hback _ (by assumption)) (hback _ ?fd) (start_64 _ _ _))
      case ma => walk_at "mine match"
      case fd => exact fresh_new (by with_reducible assumption) (by k_asm) (by k_mem) (by with_reducible assumption) (by walk_at "mine notin")
    case A1 =>
      clear hT1 hT2 hS15 hS12 hS9 hS8
      dsimp only [List.drop] at hA2
      obtain @⟨n0, n1, u0, u1, c0, hs, g0, g1, g2⟩ := hpre
      have hcn : g.get? (L + 1) = none := (NC _ (.head _)).2.2
      have hne := neN (hapart _ (.head _) src (.head _))
      have NT : NoTup s.heap [L, src] := Fr.noTup F (.cons hs list_noTup .nil)
      have N : News g L s.heap ((L + 1, oc) :: (src, listOf #[.int n0 u0, .int n1 u1] c0) :: restOf g L s.heap [src]) := News.add ⟨(NC _ (.head _)).2.1, (NC _ (.head _)).2.2, _, (NC _ (.head _)).1⟩ (NC _ (.head _)).1 (News.add (hmut src (.head _)) hs rest_news)
      with_reducible show wpAny _ _ _ _ _ _
      k_steps
      all_goals (refine' JA.mk rfl (by k_asm) (by with_unfolding_all rfl) (by with_unfolding_all rfl) (by with_unfolding_all rfl) (by walk_at "mine row") (by walk_at "mine pair") (News.get (by k_asm) (by k_mem)) (by walk_at "mine src") (by walk_at "mine own") (News.get (by k_asm) (by k_mem)) hcn (by k_ne) (by walk_at "mine kept"))
    case S8 =>
      clear hT1 hT2 hS15 hS12
      dsimp only [List.drop] at hS9 ⊢
      clear AN AK F
      intro s' hJ
      obtain @⟨h, tk, m, p, dx, r, dr, d, ov, tv, P, S, num, prio, key, za, zs, zm, hs', F, e1, e2, hinv, hsince, hfx, hfd, h64⟩ := hJ
      subst hs'
      clear hret hpre NC hmut hapart hY
      replace F := Fr.names (x := Str.ofString "port") (y := Str.ofString "stand") F e1 e2
      obtain ⟨hsrc, hport, hstand, hrow, hrr, M, hnews, hcell, hcelln, hne1, hne2, hne3, hne4, hne5, hne6⟩ := hinv
      obtain @⟨n0, n1, u0, u1, c0, hs, g0, g1, g2⟩ := hsrc
      obtain @⟨row, A, B, heard, left, choice, turn, send, es, av, pv, hp, hq, hpe, ia, ip⟩ := hport
      obtain @⟨sa, sb, own, who, theirs, sheard, sleft, schoice, ssend, sturn, o, sv, wv, s0, s1, s2, s3, vs, c, vs', c', hd0, hdict, isv, iwv, hov, iov, htv, itv⟩ := hstand
      obtain ⟨odr, hr, hdr, hro⟩ := RowAt.hide hrow
      dsimp only at h64
      have st0 := M.s0
      have st1 := M.s1
      have hperm := M.own
      have hup := M.up
      have hlen := own_len M.own
      have hlen2 := own_len M.theirs
      dsimp only at hrr st0 st1 hperm hup hlen hlen2
      subst hrr
      replace hne1 := neN hne1
      replace hne2 := neN hne2
      replace hne3 := neN hne3
      replace hne4 := neN hne4
      replace hne5 := neN hne5
      replace hne6 := neN hne6
      refine seg_nes hp hr hdr hro hov htv hq hd0 hdict hs ?_
      intro ne_p_ov ne_p_tv ne_p_dx ne_p_d ne_p_src ne_ov_dx ne_ov_d ne_tv_dx ne_tv_d ne_dx_src ne_d_src ne_row_dx ne_row_src ne_row_dr ne_dr_src ne_dr_p ne_dr_ov ne_dr_tv ne_row_d
      have ne_c_dx := neN (at_ne hcell hq (cne dc rfl))
      have ne_c_src := neN (at_ne hcell hs (cne dc rfl))
      have ne_c_d := neN (at_ne hcell hd0 (dictobj_ne' hdict (fun es n => Ne.symm (cne dc rfl))))
      have ne_c_ov := neN (at_ne hcell hov (cne dc rfl))
      have ne_c_tv := neN (at_ne hcell htv (cne dc rfl))
      have AN : Anc g h := ⟨fun b o e => F.keep b o e⟩
      have AK : Since [p, row, dr, ov, tv, dx, d, src] L h h := Since.refl
      have NT : NoTup h [L, p, row, dr, ov, tv, dx, d, src] := Fr.noTup F (.cons hp inst_noTup (.cons hr inst_noTup (.cons hdr (RowD.noTup hro) (.cons hov list_noTup (.cons htv list_noTup (.cons hq dict_noTup (.cons hd0 (dictobj_noTup hdict) (.cons hs list_noTup .nil))))))))
      have N : News g L h ((L + 1, oc) :: (p, instObj 190 dx) :: (row, instObj 99 dr) :: (dr, odr) :: (ov, listOf vs.toArray c) :: (tv, listOf vs'.toArray c') :: (dx, dictOf es 12) :: (d, o) :: (src, listOf #[.int n0 u0, .int n1 u1] c0) :: restOf g L h [p, row, dr, ov, tv, dx, d, src]) := News.add ⟨Nat.succ_ne_self L, hcelln, _, hcell⟩ hcell (News.add (hnews p (by k_mem)) hp (News.add (hnews row (by k_mem)) hr (News.add (hnews dr (by k_mem)) hdr (News.add (hnews ov (by k_mem)) hov (News.add (hnews tv (by k_mem)) htv (News.add (hnews dx (by k_mem)) hq (News.add (hnews d (by k_mem)) hd0 (News.add (hnews src (by k_mem)) hs (rest_news)))))))))
      with_reducible show wpAny _ _ _ _ _ _
      k_steps
      all_goals (refine' JJ.mk rfl (by k_asm) (by with_unfolding_all rfl) (by with_unfolding_all rfl) ⟨by walk_at "mine src", by walk_at "mine port", by walk_at "mine stand", by walk_at "mine row", rfl, ?ma, (by walk_at "mine own"), (News.get (by k_asm) (by k_mem)), hcelln, (by first | assumption | k_ne), (by first | assumption | k_ne), (by first | assumption | k_ne), (by first | assumption | k_ne), (by first | assumption | k_ne), (by first | assumption | k_ne)⟩ (since_on hsince (since_cons htv (News.get (by k_asm) (by k_mem)) (since_cons hov (News.get (by k_asm) (by k_mem)) (since_cons hdr (News.get (by k_asm) (by k_mem)) (since_cons hr (News.get (by k_asm) (by k_mem)) (since_cons hp (News.get (by k_asm) (by k_mem)) (by walk_at "mine kept")))))) hfx hfd) hfx hfd; (case ma => walk_at "mine match"))
    case S9 =>
      clear hT2 hS15
      dsimp only [List.drop] at hS12 ⊢
      clear AN AK F
      intro s' hJ
      obtain @⟨h, tk, m, p, dx, r, dr, d, ov, tv, P, S, num, prio, key, za, zs, zm, hs', F, e1, e2, hinv, hsince, hfx, hfd⟩ := hJ
      subst hs'
      clear hret hpre NC hmut hapart hY
      replace F := Fr.names (x := Str.ofString "port") (y := Str.ofString "stand") F e1 e2
      obtain ⟨hsrc, hport, hstand, hrow, hrr, M, hnews, hcell, hcelln, hne1, hne2, hne3, hne4, hne5, hne6⟩ := hinv
      obtain @⟨n0, n1, u0, u1, c0, hs, g0, g1, g2⟩ := hsrc
      obtain @⟨row, A, B, heard, left, choice, turn, send, es, av, pv, hp, hq, hpe, ia, ip⟩ := hport
      obtain @⟨sa, sb, own, who, theirs, sheard, sleft, schoice, ssend, sturn, o, sv, wv, s0, s1, s2, s3, vs, c, vs', c', hd0, hdict, isv, iwv, hov, iov, htv, itv⟩ := hstand
      obtain ⟨odr, hr, hdr, hro⟩ := RowAt.hide hrow
      have st0 := M.s0
      have st1 := M.s1
      have hperm := M.own
      have hup := M.up
      have hlen := own_len M.own
      have hlen2 := own_len M.theirs
      dsimp only at hrr st0 st1 hperm hup hlen hlen2
      subst hrr
      replace hne1 := neN hne1
      replace hne2 := neN hne2
      replace hne3 := neN hne3
      replace hne4 := neN hne4
      replace hne5 := neN hne5
      replace hne6 := neN hne6
      refine seg_nes hp hr hdr hro hov htv hq hd0 hdict hs ?_
      intro ne_p_ov ne_p_tv ne_p_dx ne_p_d ne_p_src ne_ov_dx ne_ov_d ne_tv_dx ne_tv_d ne_dx_src ne_d_src ne_row_dx ne_row_src ne_row_dr ne_dr_src ne_dr_p ne_dr_ov ne_dr_tv ne_row_d
      have ne_c_dx := neN (at_ne hcell hq (cne dc rfl))
      have ne_c_src := neN (at_ne hcell hs (cne dc rfl))
      have ne_c_d := neN (at_ne hcell hd0 (dictobj_ne' hdict (fun es n => Ne.symm (cne dc rfl))))
      have ne_c_ov := neN (at_ne hcell hov (cne dc rfl))
      have ne_c_tv := neN (at_ne hcell htv (cne dc rfl))
      have AN : Anc g h := ⟨fun b o e => F.keep b o e⟩
      have AK : Since [p, row, dr, ov, tv, dx, d, src] L h h := Since.refl
      have NT : NoTup h [L, p, row, dr, ov, tv, dx, d, src] := Fr.noTup F (.cons hp inst_noTup (.cons hr inst_noTup (.cons hdr (RowD.noTup hro) (.cons hov list_noTup (.cons htv list_noTup (.cons hq dict_noTup (.cons hd0 (dictobj_noTup hdict) (.cons hs list_noTup .nil))))))))
      have N : News g L h ((L + 1, oc) :: (p, instObj 190 dx) :: (row, instObj 99 dr) :: (dr, odr) :: (ov, listOf vs.toArray c) :: (tv, listOf vs'.toArray c') :: (dx, dictOf es 12) :: (d, o) :: (src, listOf #[.int n0 u0, .int n1 u1] c0) :: restOf g L h [p, row, dr, ov, tv, dx, d, src]) := News.add ⟨Nat.succ_ne_self L, hcelln, _, hcell⟩ hcell (News.add (hnews p (by k_mem)) hp (News.add (hnews row (by k_mem)) hr (News.add (hnews dr (by k_mem)) hdr (News.add (hnews ov (by k_mem)) hov (News.add (hnews tv (by k_mem)) htv (News.add (hnews dx (by k_mem)) hq (News.add (hnews d (by k_mem)) hd0 (News.add (hnews src (by k_mem)) hs (rest_news)))))))))
      with_reducible show wpAny _ _ _ _ _ _
      k_steps
      all_goals (try (exfalso; exact bne_no (by assumption)))
      all_goals unfold Halt
      all_goals refine' loop_ok hT1 rfl rfl (by assumption) (by assumption) (by assumption) (by k_asm) (by with_unfolding_all rfl) (by with_unfolding_all rfl) ⟨by walk_at "mine src", by walk_at "mine port", by walk_at "mine stand", by walk_at "mine row", rfl, ?ma, (by walk_at "mine own"), (News.get (by k_asm) (by k_mem)), hcelln, (by first | assumption | k_ne), (by first | assumption | k_ne), (by first | assumption | k_ne), (by first | assumption | k_ne), (by first | assumption | k_ne), (by first | assumption | k_ne)⟩ ?done
      case ma => exact M.chosen
      case done =>
        intro m' h' tk' j F2
        obtain ⟨ov2, tv2, P2, S2, q1, q2, inv2, _, si2⟩ := j
        exact seg_use hS12 (JJ.mk rfl F2 q1 q2 inv2 (since_on (since_on hsince (since_cons htv (News.get (by k_asm) (by k_mem)) (since_cons hov (News.get (by k_asm) (by k_mem)) (since_cons hdr (News.get (by k_asm) (by k_mem)) (since_cons hr (News.get (by k_asm) (by k_mem)) (since_cons hp (News.get (by k_asm) (by k_mem)) (by walk_at "mine kept")))))) hfx hfd) si2 hfx hfd) hfx hfd)
    case S12 =>
      clear hT1
      dsimp only [List.drop] at hS15 ⊢
      clear AN AK F
      intro s' hJ
      obtain @⟨h, tk, m, p, dx, r, dr, d, ov, tv, P, S, num, prio, key, za, zs, zm, hs', F, e1, e2, hinv, hsince, hfx, hfd⟩ := hJ
      subst hs'
      clear hret hpre NC hmut hapart hY
      replace F := Fr.names (x := Str.ofString "port") (y := Str.ofString "stand") F e1 e2
      obtain ⟨hsrc, hport, hstand, hrow, hrr, M, hnews, hcell, hcelln, hne1, hne2, hne3, hne4, hne5, hne6⟩ := hinv
      obtain @⟨n0, n1, u0, u1, c0, hs, g0, g1, g2⟩ := hsrc
      obtain @⟨row, A, B, heard, left, choice, turn, send, es, av, pv, hp, hq, hpe, ia, ip⟩ := hport
      obtain @⟨sa, sb, own, who, theirs, sheard, sleft, schoice, ssend, sturn, o, sv, wv, s0, s1, s2, s3, vs, c, vs', c', hd0, hdict, isv, iwv, hov, iov, htv, itv⟩ := hstand
      obtain ⟨odr, hr, hdr, hro⟩ := RowAt.hide hrow
      have st0 := M.s0
      have st1 := M.s1
      have hperm := M.own
      have hup := M.up
      have hlen := own_len M.own
      have hlen2 := own_len M.theirs
      dsimp only at hrr st0 st1 hperm hup hlen hlen2
      subst hrr
      replace hne1 := neN hne1
      replace hne2 := neN hne2
      replace hne3 := neN hne3
      replace hne4 := neN hne4
      replace hne5 := neN hne5
      replace hne6 := neN hne6
      refine seg_nes hp hr hdr hro hov htv hq hd0 hdict hs ?_
      intro ne_p_ov ne_p_tv ne_p_dx ne_p_d ne_p_src ne_ov_dx ne_ov_d ne_tv_dx ne_tv_d ne_dx_src ne_d_src ne_row_dx ne_row_src ne_row_dr ne_dr_src ne_dr_p ne_dr_ov ne_dr_tv ne_row_d
      have ne_c_dx := neN (at_ne hcell hq (cne dc rfl))
      have ne_c_src := neN (at_ne hcell hs (cne dc rfl))
      have ne_c_d := neN (at_ne hcell hd0 (dictobj_ne' hdict (fun es n => Ne.symm (cne dc rfl))))
      have ne_c_ov := neN (at_ne hcell hov (cne dc rfl))
      have ne_c_tv := neN (at_ne hcell htv (cne dc rfl))
      have AN : Anc g h := ⟨fun b o e => F.keep b o e⟩
      have AK : Since [p, row, dr, ov, tv, dx, d, src] L h h := Since.refl
      have NT : NoTup h [L, p, row, dr, ov, tv, dx, d, src] := Fr.noTup F (.cons hp inst_noTup (.cons hr inst_noTup (.cons hdr (RowD.noTup hro) (.cons hov list_noTup (.cons htv list_noTup (.cons hq dict_noTup (.cons hd0 (dictobj_noTup hdict) (.cons hs list_noTup .nil))))))))
      have N : News g L h ((L + 1, oc) :: (p, instObj 190 dx) :: (row, instObj 99 dr) :: (dr, odr) :: (ov, listOf vs.toArray c) :: (tv, listOf vs'.toArray c') :: (dx, dictOf es 12) :: (d, o) :: (src, listOf #[.int n0 u0, .int n1 u1] c0) :: restOf g L h [p, row, dr, ov, tv, dx, d, src]) := News.add ⟨Nat.succ_ne_self L, hcelln, _, hcell⟩ hcell (News.add (hnews p (by k_mem)) hp (News.add (hnews row (by k_mem)) hr (News.add (hnews dr (by k_mem)) hdr (News.add (hnews ov (by k_mem)) hov (News.add (hnews tv (by k_mem)) htv (News.add (hnews dx (by k_mem)) hq (News.add (hnews d (by k_mem)) hd0 (News.add (hnews src (by k_mem)) hs (rest_news)))))))))
      with_reducible show wpAny _ _ _ _ _ _
      k_steps
      all_goals (try (exfalso; exact bne_no (by assumption)))
      all_goals unfold Halt
      all_goals refine' loop_ok hT2 rfl rfl (by assumption) (by assumption) (by assumption) (by k_asm) (by with_unfolding_all rfl) (by with_unfolding_all rfl) ⟨by walk_at "mine src", by walk_at "mine port", by walk_at "mine stand", by walk_at "mine row", rfl, ?ma, (by walk_at "mine own"), (News.get (by k_asm) (by k_mem)), hcelln, (by first | assumption | k_ne), (by first | assumption | k_ne), (by first | assumption | k_ne), (by first | assumption | k_ne), (by first | assumption | k_ne), (by first | assumption | k_ne)⟩ ?done
      case ma => exact M
      case done =>
        intro m' h' tk' j F2
        obtain ⟨ov2, tv2, P2, S2, q1, q2, inv2, _, si2⟩ := j
        exact seg_use hS15 (JJ.mk rfl F2 q1 q2 inv2 (since_on (since_on hsince (since_cons htv (News.get (by k_asm) (by k_mem)) (since_cons hov (News.get (by k_asm) (by k_mem)) (since_cons hdr (News.get (by k_asm) (by k_mem)) (since_cons hr (News.get (by k_asm) (by k_mem)) (since_cons hp (News.get (by k_asm) (by k_mem)) (by walk_at "mine kept")))))) hfx hfd) si2 hfx hfd) hfx hfd)
    case S15 =>
      clear hT1 hT2
      dsimp only [List.drop]
      clear AN AK F
      intro s' hJ
      obtain @⟨h, tk, m, p, dx, r, dr, d, ov, tv, P, S, num, prio, key, za, zs, zm, hs', F, e1, e2, hinv, hsince, hfx, hfd⟩ := hJ
      subst hs'
      have N : News g L h [] := News.nil
      with_reducible show wpAny _ _ _ _ _ _
      k_steps
      all_goals (try dsimp only)
      all_goals exact hret _ _ _ _ F (fun a o e hL _ hX => hsince.get a o e hL hX) ⟨rfl, hinv.hsrc⟩
    case T1 =>
      clear AN AK F hret hpre NC hmut hapart hY hT2
      dsimp only [loopBody, List.drop]
      intro sh i t h tk m₁ o' p dx r dr d num prio key za zs zm E' hJ F hI hIo hLI
      obtain ⟨ov, tv, P, S, e1, e2, hinv, hoff, hsince⟩ := hJ
      replace F := Fr.names (x := Str.ofString "port") (y := Str.ofString "stand") F ((if_neg (show ¬ Str.ofString "port" = Str.ofString "turn" by decide +kernel)).trans e1) ((if_neg (show ¬ Str.ofString "stand" = Str.ofString "turn" by decide +kernel)).trans e2)
      obtain ⟨hsrc, hport, hstand, hrow, hrr, M, hnews, hcell, hcelln, hne1, hne2, hne3, hne4, hne5, hne6⟩ := hinv
      obtain @⟨n0, n1, u0, u1, c0, hs, g0, g1, g2⟩ := hsrc
      obtain @⟨row, A, B, heard, left, choice, turn, send, es, av, pv, hp, hq, hpe, ia, ip⟩ := hport
      obtain @⟨sa, sb, own, who, theirs, sheard, sleft, schoice, ssend, sturn, o, sv, wv, s0, s1, s2, s3, vs, c, vs', c', hd0, hdict, isv, iwv, hov, iov, htv, itv⟩ := hstand
      obtain ⟨odr, hr, hdr, hro⟩ := RowAt.hide hrow
      have st0 := M.s0
      have st1 := M.s1
      have hperm := M.own
      have hup := M.up
      have hlen := own_len M.own
      have hlen2 := own_len M.theirs
      dsimp only at hrr st0 st1 hperm hup hlen hlen2
      subst hrr
      replace hne1 := neN hne1
      replace hne2 := neN hne2
      replace hne3 := neN hne3
      replace hne4 := neN hne4
      replace hne5 := neN hne5
      replace hne6 := neN hne6
      refine seg_nes hp hr hdr hro hov htv hq hd0 hdict hs ?_
      intro ne_p_ov ne_p_tv ne_p_dx ne_p_d ne_p_src ne_ov_dx ne_ov_d ne_tv_dx ne_tv_d ne_dx_src ne_d_src ne_row_dx ne_row_src ne_row_dr ne_dr_src ne_dr_p ne_dr_ov ne_dr_tv ne_row_d
      have ne_c_dx := neN (at_ne hcell hq (cne dc rfl))
      have ne_c_src := neN (at_ne hcell hs (cne dc rfl))
      have ne_c_d := neN (at_ne hcell hd0 (dictobj_ne' hdict (fun es n => Ne.symm (cne dc rfl))))
      have ne_c_ov := neN (at_ne hcell hov (cne dc rfl))
      have ne_c_tv := neN (at_ne hcell htv (cne dc rfl))
      have AN : Anc g h := ⟨fun b o e => F.keep b o e⟩
      have AK : Since [p, row, dr, ov, tv, dx, d, src] L h h := Since.refl
      have NT : NoTup h [L, p, row, dr, ov, tv, dx, d, src] := Fr.noTup F (.cons hp inst_noTup (.cons hr inst_noTup (.cons hdr (RowD.noTup hro) (.cons hov list_noTup (.cons htv list_noTup (.cons hq dict_noTup (.cons hd0 (dictobj_noTup hdict) (.cons hs list_noTup .nil))))))))
      have N : News g L h ((L + 1, oc) :: (p, instObj 190 dx) :: (row, instObj 99 dr) :: (dr, odr) :: (ov, listOf vs.toArray c) :: (tv, listOf vs'.toArray c') :: (dx, dictOf es 12) :: (d, o) :: (src, listOf #[.int n0 u0, .int n1 u1] c0) :: restOf g L h [p, row, dr, ov, tv, dx, d, src]) := News.add ⟨Nat.succ_ne_self L, hcelln, _, hcell⟩ hcell (News.add (hnews p (by k_mem)) hp (News.add (hnews row (by k_mem)) hr (News.add (hnews dr (by k_mem)) hdr (News.add (hnews ov (by k_mem)) hov (News.add (hnews tv (by k_mem)) htv (News.add (hnews dx (by k_mem)) hq (News.add (hnews d (by k_mem)) hd0 (News.add (hnews src (by k_mem)) hs (rest_news)))))))))
      with_reducible show wpAny _ _ _ _ _ _
      have mP : MPut ⟨row, A, B, heard, left, choice, turn, send⟩ ⟨sa, sb, own, who, theirs, sheard, sleft, schoice, ssend, sturn⟩ num prio key := M.mput
      clear M
      k_steps
      all_goals (try (exfalso; exact Bool.noConfusion ((mP.told _ _ (by assumption)).symm.trans (by assumption))))
      all_goals (try dsimp only)
      all_goals refine' ⟨rfl, _, _, _, rfl, (by k_asm), ?gi, _, _, _, _, (by with_unfolding_all rfl), (by with_unfolding_all rfl), ⟨by walk_at "mine src", by walk_at "mine port", by walk_at "mine stand", by walk_at "mine row", rfl, ?ma, (by walk_at "mine own"), (News.get (by k_asm) (by k_mem)), hcelln, (by first | assumption | k_ne), (by first | assumption | k_ne), (by first | assumption | k_ne), (by first | assumption | k_ne), (by first | assumption | k_ne), (by first | assumption | k_ne)⟩, ?of, since_trans hsince (since_cons htv (News.get (by k_asm) (by k_mem)) (since_cons hov (News.get (by k_asm) (by k_mem)) (since_cons hdr (News.get (by k_asm) (by k_mem)) (since_cons hr (News.get (by k_asm) (by k_mem)) (since_cons hp (News.get (by k_asm) (by k_mem)) (by walk_at "mine kept"))))))⟩
      case ma => walk_at "mine match"
      case gi => exact Since.get (by walk_at "mine kept") _ _ hI (Ne.symm hLI) (nin_cons (Ne.symm (hoff _ (by k_mem))) (nin_cons (Ne.symm (hoff _ (by k_mem))) (nin_cons (Ne.symm (hoff _ (by k_mem))) (nin_cons (Ne.symm (hoff _ (by k_mem))) (nin_cons (Ne.symm (hoff _ (by k_mem))) (nin_cons (Ne.symm (hoff _ (by k_mem))) (nin_cons (Ne.symm (hoff _ (by k_mem))) (nin_cons (Ne.symm (hoff _ (by k_mem))) List.not_mem_nil))))))))
      case of =>
        repeat' (first | exact List.forall_mem_nil _ | refine List.forall_mem_cons.mpr ⟨?_, ?_⟩)
        all_goals first | exact hoff _ (by k_mem) | (refine cls_ne (News.get (by k_asm) (by k_mem)) (Since.get (by walk_at "mine kept") _ _ hI (Ne.symm hLI) (nin_cons (Ne.symm (hoff _ (by k_mem))) (nin_cons (Ne.symm (hoff _ (by k_mem))) (nin_cons (Ne.symm (hoff _ (by k_mem))) (nin_cons (Ne.symm (hoff _ (by k_mem))) (nin_cons (Ne.symm (hoff _ (by k_mem))) (nin_cons (Ne.symm (hoff _ (by k_mem))) (nin_cons (Ne.symm (hoff _ (by k_mem))) (nin_cons (Ne.symm (hoff _ (by k_mem))) List.not_mem_nil))))))))) ?_; rw [hIo]; simp)
    case T2 =>
      clear AN AK F hret hpre NC hmut hapart hY
      dsimp only [loopBody, List.drop]
      intro sh i t h tk m₁ o' p dx r dr d num prio key za zs zm E' hJ F hI hIo hLI
      obtain ⟨ov, tv, P, S, e1, e2, hinv, hoff, hsince⟩ := hJ
      replace F := Fr.names (x := Str.ofString "port") (y := Str.ofString "stand") F ((if_neg (show ¬ Str.ofString "port" = Str.ofString "turn" by decide +kernel)).trans e1) ((if_neg (show ¬ Str.ofString "stand" = Str.ofString "turn" by decide +kernel)).trans e2)
      obtain ⟨hsrc, hport, hstand, hrow, hrr, M, hnews, hcell, hcelln, hne1, hne2, hne3, hne4, hne5, hne6⟩ := hinv
      obtain @⟨n0, n1, u0, u1, c0, hs, g0, g1, g2⟩ := hsrc
      obtain @⟨row, A, B, heard, left, choice, turn, send, es, av, pv, hp, hq, hpe, ia, ip⟩ := hport
      obtain @⟨sa, sb, own, who, theirs, sheard, sleft, schoice, ssend, sturn, o, sv, wv, s0, s1, s2, s3, vs, c, vs', c', hd0, hdict, isv, iwv, hov, iov, htv, itv⟩ := hstand
      obtain ⟨odr, hr, hdr, hro⟩ := RowAt.hide hrow
      have st0 := M.s0
      have st1 := M.s1
      have hperm := M.own
      have hup := M.up
      have hlen := own_len M.own
      have hlen2 := own_len M.theirs
      dsimp only at hrr st0 st1 hperm hup hlen hlen2
      subst hrr
      replace hne1 := neN hne1
      replace hne2 := neN hne2
      replace hne3 := neN hne3
      replace hne4 := neN hne4
      replace hne5 := neN hne5
      replace hne6 := neN hne6
      refine seg_nes hp hr hdr hro hov htv hq hd0 hdict hs ?_
      intro ne_p_ov ne_p_tv ne_p_dx ne_p_d ne_p_src ne_ov_dx ne_ov_d ne_tv_dx ne_tv_d ne_dx_src ne_d_src ne_row_dx ne_row_src ne_row_dr ne_dr_src ne_dr_p ne_dr_ov ne_dr_tv ne_row_d
      have ne_c_dx := neN (at_ne hcell hq (cne dc rfl))
      have ne_c_src := neN (at_ne hcell hs (cne dc rfl))
      have ne_c_d := neN (at_ne hcell hd0 (dictobj_ne' hdict (fun es n => Ne.symm (cne dc rfl))))
      have ne_c_ov := neN (at_ne hcell hov (cne dc rfl))
      have ne_c_tv := neN (at_ne hcell htv (cne dc rfl))
      have AN : Anc g h := ⟨fun b o e => F.keep b o e⟩
      have AK : Since [p, row, dr, ov, tv, dx, d, src] L h h := Since.refl
      have NT : NoTup h [L, p, row, dr, ov, tv, dx, d, src] := Fr.noTup F (.cons hp inst_noTup (.cons hr inst_noTup (.cons hdr (RowD.noTup hro) (.cons hov list_noTup (.cons htv list_noTup (.cons hq dict_noTup (.cons hd0 (dictobj_noTup hdict) (.cons hs list_noTup .nil))))))))
      have N : News g L h ((L + 1, oc) :: (p, instObj 190 dx) :: (row, instObj 99 dr) :: (dr, odr) :: (ov, listOf vs.toArray c) :: (tv, listOf vs'.toArray c') :: (dx, dictOf es 12) :: (d, o) :: (src, listOf #[.int n0 u0, .int n1 u1] c0) :: restOf g L h [p, row, dr, ov, tv, dx, d, src]) := News.add ⟨Nat.succ_ne_self L, hcelln, _, hcell⟩ hcell (News.add (hnews p (by k_mem)) hp (News.add (hnews row (by k_mem)) hr (News.add (hnews dr (by k_mem)) hdr (News.add (hnews ov (by k_mem)) hov (News.add (hnews tv (by k_mem)) htv (News.add (hnews dx (by k_mem)) hq (News.add (hnews d (by k_mem)) hd0 (News.add (hnews src (by k_mem)) hs (rest_news)))))))))
      with_reducible show wpAny _ _ _ _ _ _
      have mS : MSil ⟨row, A, B, heard, left, choice, 5, false⟩ ⟨sa, sb, own, who, theirs, sheard, sleft, schoice, false, 5⟩ num prio key := ⟨M.quiet.silent⟩
      clear M
      k_steps
      all_goals (try dsimp only)
      all_goals refine' ⟨rfl, _, _, _, rfl, (by k_asm), ?gi, _, _, _, _, (by with_unfolding_all rfl), (by with_unfolding_all rfl), ⟨by walk_at "mine src", by walk_at "mine port", by walk_at "mine stand", by walk_at "mine row", rfl, ?ma, (by walk_at "mine own"), (News.get (by k_asm) (by k_mem)), hcelln, (by first | assumption | k_ne), (by first | assumption | k_ne), (by first | assumption | k_ne), (by first | assumption | k_ne), (by first | assumption | k_ne), (by first | assumption | k_ne)⟩, ?of, since_trans hsince (since_cons htv (News.get (by k_asm) (by k_mem)) (since_cons hov (News.get (by k_asm) (by k_mem)) (since_cons hdr (News.get (by k_asm) (by k_mem)) (since_cons hr (News.get (by k_asm) (by k_mem)) (since_cons hp (News.get (by k_asm) (by k_mem)) (by walk_at "mine kept"))))))⟩
      case ma => walk_at "mine match"
      case gi => exact Since.get (by walk_at "mine kept") _ _ hI (Ne.symm hLI) (nin_cons (Ne.symm (hoff _ (by k_mem))) (nin_cons (Ne.symm (hoff _ (by k_mem))) (nin_cons (Ne.symm (hoff _ (by k_mem))) (nin_cons (Ne.symm (hoff _ (by k_mem))) (nin_cons (Ne.symm (hoff _ (by k_mem))) (nin_cons (Ne.symm (hoff _ (by k_mem))) (nin_cons (Ne.symm (hoff _ (by k_mem))) (nin_cons (Ne.symm (hoff _ (by k_mem))) List.not_mem_nil))))))))
      case of =>
        repeat' (first | exact List.forall_mem_nil _ | refine List.forall_mem_cons.mpr ⟨?_, ?_⟩)
        all_goals first | exact hoff _ (by k_mem) | (refine cls_ne (News.get (by k_asm) (by k_mem)) (Since.get (by walk_at "mine kept") _ _ hI (Ne.symm hLI) (nin_cons (Ne.symm (hoff _ (by k_mem))) (nin_cons (Ne.symm (hoff _ (by k_mem))) (nin_cons (Ne.symm (hoff _ (by k_mem))) (nin_cons (Ne.symm (hoff _ (by k_mem))) (nin_cons (Ne.symm (hoff _ (by k_mem))) (nin_cons (Ne.symm (hoff _ (by k_mem))) (nin_cons (Ne.symm (hoff _ (by k_mem))) (nin_cons (Ne.symm (hoff _ (by k_mem))) List.not_mem_nil))))))))) ?_; rw [hIo]; simp)

  exact key rfl rfl

-- text C17
theorem text_C17 : True := by
  w_top off
  trivial

theorem lines_63 : True := by
  k_with "own call ref" => (k_here; (with_reducible show wpAny _ _ (call (Value.ref 329) _) _ _ _); k_dflt (refine' Does.use (port_right_ok _ _) ?kB ?kF ?kX ?kT ?kk ?km_161 ?kp_161 ?kd ?ku ?_; walk_at "mine use"; (case kp_161 => exact (by walk_at "mine src")); (case km_161 => walk_at "mine own"); walk_at "mine room"); intro r' h' tk' F' K' P'; (try dsimp only at P'); obtain ⟨e', s'⟩ := P'; subst e'; cases s'; walk_at "mine after")
  trivial

/-- a contract that leans on the ground too -/
def DoesG (w : World) (f : Addr) (n : Nat) (vs : List Value) (PG : Heap → Prop) (Own Mut : List Addr) (Pre : Heap → Prop) (Post : Heap → Value → Heap → Prop) : Prop :=
  ∀ (dp un : Nat) (gd : Option (List Code)) (cn : Str) (cs : Scope) (a : Addr) (ccd : Value) (cl : List (Str × Addr)) (outer : List Env) (A₀ : Around) (base h₀ : Heap) (L : Addr) (m : Str → Option Value) (s : Shared) (Q E : Value → Shared → Prop)
    (mean : ExcName → Option Value) (mg mb : Str → Option Value),
    Below A₀ base outer h₀ → Fr h₀ L s.heap m → (hd.heap_1 w.params).In h₀ → Top hd.view_1 LO mean mg mb h₀ → cs.kind = .function → PG h₀ →
    (∀ x ∈ Own, NewAt h₀ L s.heap x) → Pre s.heap → dp + n < recursionLimit → un + 8 * n + 200 < cLine →
    (∀ r h' tk', Fr h₀ L h' m → Keep Mut L s.heap h' → Post s.heap r h' → Q r { s with heap := h', toks := tk' }) →
    wpAny (model PySem.Challenge.rw_xm0983_01.row.prog w) (ktrTop dp un gd cn cs L a ccd cl outer) (call (.ref f) vs) Q E s

theorem DoesG.use {w : World} {f : Addr} {n : Nat} {vs : List Value} {PG : Heap → Prop} {Own Mut : List Addr} {Pre : Heap → Prop} {Post : Heap → Value → Heap → Prop}
    {dp un : Nat} {gd : Option (List Code)} {cn : Str} {cs : Scope} {a : Addr} {ccd : Value} {cl : List (Str × Addr)} {outer : List Env} {A₀ : Around} {base h₀ : Heap} {L : Addr} {m : Str → Option Value} {s : Shared} {Q E : Value → Shared → Prop}
    {mean : ExcName → Option Value} {mg mb : Str → Option Value} (D : DoesG w f n vs PG Own Mut Pre Post)
    (B : Below A₀ base outer h₀) (F : Fr h₀ L s.heap m) (X : (hd.heap_1 w.params).In h₀) (T : Top hd.view_1 LO mean mg mb h₀) (hk : cs.kind = .function) (hg : PG h₀)
    (hm : ∀ x ∈ Own, NewAt h₀ L s.heap x) (hp : Pre s.heap) (hd : dp + n < recursionLimit) (hu : un + 8 * n + 200 < cLine)
    (k : ∀ r h' tk', Fr h₀ L h' m → Keep Mut L s.heap h' → Post s.heap r h' → Q r { s with heap := h', toks := tk' }) :
    wpAny (model PySem.Challenge.rw_xm0983_01.row.prog w) (ktrTop dp un gd cn cs L a ccd cl outer) (call (.ref f) vs) Q E s :=
  D _ _ _ _ _ _ _ _ _ _ _ _ _ _ _ _ _ _ _ _ B F X T hk hg hm hp hd hu k

/-- the way into a def of the text's own -/
theorem does_ofG {w : World} {f : Addr} {n : Nat} {vs : List Value} {PG : Heap → Prop} {Own Mut : List Addr} {Pre : Heap → Prop} {Post : Heap → Value → Heap → Prop}
    {name qual : Str} {params : Arguments} {body : List Stmt} {scope : Scope} {dV kV doc pm cdv ct oc : Value} {an od : Option Addr} {osl : Array (Option Value)} {binds : List (Str × Value)}
    (hupG : Up PG) (hup : Up Pre) (hdn : Down Post) (hn : 1 ≤ n)
    (ho : (hd.heap_1 w.params).lookup f = some ⟨oc, od, .func (fnOf name qual params body scope dV kV doc pm an cdv ct), osl⟩) (hcd : codeIn (hd.heap_1 w.params) cdv qual = true)
    (hbind : ∀ s : Shared, (hd.heap_1 w.params).In s.heap → BindsTo s (fnOf name qual params body scope dV kV doc pm an cdv ct) ⟨vs, []⟩ binds) (hloc : ∀ y ∈ binds, scope.names.lookup y.1 = some .local)
    (hco : scope.isCoroutine = false) (hgen : scope.isGenerator = false) (hk : scope.kind = .function) (hcell : ∀ x ∈ scope.names, x.2 ≠ .cell)
    (h : ∀ (dp un : Nat) (gd : Option (List Code)) (outer : List Env) (A₀ : Around) (base g : Heap) (L : Addr) (s : Shared) (Q E : Value → Shared → Prop) (mean : ExcName → Option Value) (mg mb : Str → Option Value),
      Below A₀ base outer g → Fr g L s.heap (fun y => binds.reverse.lookup y) → (hd.heap_1 w.params).In g → Top hd.view_1 LO mean mg mb g → PG g →
      (∀ x ∈ Own, NewAt g L s.heap x) → Pre s.heap → dp + n ≤ recursionLimit → un + 8 * n + 192 < cLine →
      (∀ r h' tk' m', Fr g L h' m' → Since Mut L s.heap h' → Post s.heap r h' → Q r { s with heap := h', toks := tk' }) →
      wpAny (model PySem.Challenge.rw_xm0983_01.row.prog w) (ktrTop dp un gd qual scope L f cdv [] outer) (execs body (envX qual scope L f cdv []))
        (fun fl s' => Q (match fl with | .ret v => v | _ => .none) s') E s) :
    DoesG w f n vs PG Own Mut Pre Post := by
  intro dp un gd cn cs a ccd cl outer A₀ base h₀ L m s Q E mean mg mb B F X T hkc hpg hmut hpre hdp hun hret
  refine wpAny_call ?_
  have N : News h₀ L s.heap (restOf h₀ L s.heap []) := rest_news
  obtain ⟨FG, BG, st, lv⟩ := groundX (A := ktrTop dp un gd cn cs L a ccd cl outer) (R := fun r s' => match r with | .ok (.ret v) => Q v s' | .ok _ => False | .error e => E e s') B F N rfl rfl hkc
  have Xs := X.keeps F.keep
  refine codeAny_call_def (fd := fnOf name qual params body scope dV kV doc pm an cdv ct) (body := body) (binds := binds) (by show dp < _; omega) (Xs _ _ ho) rfl (T.nolimit.keeps F.keep) (codeRec_of Xs hcd) rfl (hbind s Xs) hcell hloc (fun h₁ hns hk₁ => ?_) hco hgen hk
  have F1 : Fr (hideAll s.heap ((restOf h₀ L s.heap []).map (·.1))) s.heap.objs.size h₁ (fun y => binds.reverse.lookup y) := ⟨hns, fun b o e => hk₁ b o (of_hideAll _ e), Nat.le_of_eq (hideAll_size _ _)⟩
  have key := h (dp + 1) (un + 3) gd (envX cn cs L a ccd cl :: outer) _ base _ s.heap.objs.size { s with heap := h₁, toks := s.toks + binds.length } Q
    (fun e s' => wpAny (model PySem.Challenge.rw_xm0983_01.row.prog w) ((ktrTop dp un gd cn cs L a ccd cl outer).deeper (callEnv (fnOf name qual params body scope dV kV doc pm an cdv ct) s.heap.objs.size f)) (leaving (callEnv (fnOf name qual params body scope dV kV doc pm an cdv ct) s.heap.objs.size f) e) (fun _ s'' => E e s'') (fun e' s'' => E e' s'') s')
    mean mg mb BG F1 (X.keeps st) (T.keeps st) (hupG _ _ st hpg) ?_ (hup _ _ hk₁ hpre) (by omega) (by omega) ?_
  · exact key
  · intro x hx
    obtain ⟨x1, x2, o, x3⟩ := hmut x hx
    refine ⟨fun e => ?_, ?_, o, hk₁ _ _ x3⟩
    · have := Heap.lt_size x3; rw [e] at this; exact absurd this (Nat.lt_irrefl _)
    · exact hideAll_none _ (List.mem_map.mpr ⟨(x, o), mem_restOf.mpr ⟨x3, x1, x2, fun q => nomatch q⟩, rfl⟩)
  · intro r h' tk' m' F' kp hpost
    refine lv r { s with heap := h', toks := tk' } ⟨_, m', [], F', News.nil, fun Fb _ => ?_⟩
    refine hret r h' tk' Fb ⟨fun a o e _ hx => ?_⟩ (hdn _ _ _ _ hk₁ hpost)
    exact kp.get a o (hk₁ _ _ e) (fun q => by have := Heap.lt_size e; rw [q] at this; exact absurd this (Nat.lt_irrefl _)) hx

set_option maxHeartbeats 2000000 in
theorem pool_ok (w : World) (v : Addr) (vs : List Value) (ns : List Int) (k : Int) (t : Tok) :
    DoesG w 243 1 [.ref v, .int k t] (fun h => h.IsList v vs.toArray) [] [] (fun h => IntsAre vs ns ∧ ns.length ≤ 63 ∧ 0 ≤ k ∧ k < 3) (fun h r h' => ∃ r', r = .ref r' ∧ Fresh h r' ∧ SrcAt h' r') := by
  have key : model PySem.Challenge.rw_xm0983_01.row.prog w = model PySem.Challenge.rw_xm0983_01.row.prog w → hd.heap_1 w.params = hd.heap_1 w.params →
      DoesG w 243 1 [.ref v, .int k t] (fun h => h.IsList v vs.toArray) [] [] (fun h => IntsAre vs ns ∧ ns.length ≤ 63 ∧ 0 ≤ k ∧ k < 3) (fun h r h' => ∃ r', r = .ref r' ∧ Fresh h r' ∧ SrcAt h' r') := by
    k_fill
    intro _ _
    refine' does_ofG (binds := [(Str.ofString "script", Value.ref v), (Str.ofString "k", Value.int k t)]) ?upg ?up ?dn (by decide) ?ho ?hcd ?hb ?hl ?c1 ?c2 ?c3 ?c4 ?_
    case ho => k_is
    case hcd => k_is
    case hb => walk_at "mine hb"
    case hl => exact locs rfl
    case c1 => exact rfl
    case c2 => exact rfl
    case c3 => exact rfl
    case c4 => decide
    case upg => exact fun h h' k p => p.at fun o e => k _ o e
    case up => exact fun h h' k p => p
    case dn => exact fun h h' r h'' k ⟨v, e, f, b⟩ => ⟨v, e, fresh_down k f, b⟩
    intro dp un gd outer A₀ base g L s Q E mean mg mb B F X T hv hmut hpre hd hu hret
    have AN : Anc g s.heap := ⟨fun b o e => F.keep b o e⟩
    have AK : Since [] L s.heap s.heap := Since.refl
    obtain ⟨hi, hlen, hk0, hk3⟩ := hpre
    have NT : NoTup s.heap [L] := Fr.noTup F NoTup.nil
    have N : News g L s.heap (restOf g L s.heap []) := rest_news
    with_reducible show wpAny _ _ _ _ _ _
    k_steps
    all_goals (try dsimp only)
    all_goals exact hret _ _ _ _ (by k_asm) (by walk_at "mine kept") ⟨_, rfl, fresh_rest (by k_asm) (.head _) (fun p hp => Nat.ne_of_lt ((by with_reducible assumption : ∀ p ∈ restOf g L s.heap [], p.1 < _) p hp)) List.not_mem_nil, SrcAt.mk (News.get (by k_asm) (by k_mem)) (Int.mul_nonneg (by split <;> omega) (by split <;> omega)) (Int.fmod_nonneg_of_pos _ (by decide)) (Int.fmod_lt_of_pos _ (by decide))⟩
  exact key rfl rfl

-- text C18
theorem text_C18 : True := by
  w_top off
  trivial

-- in one file with the head this would make twins of the head's own definitions: 4 MB
local macro_rules | `(tactic| k_qdec) => `(tactic| decide +kernel)
section
variable {prog : Program} {w : World} {A : Around} {E : Value → Shared → Prop} {s : Shared} {env : Env} {g : Heap} {x : Str} {body : List Stmt} {Q : Flow → Shared → Prop}
theorem iter_turnsB {r : Addr} {a₀ b₀ : Int} {t₀ u₀ v₀ : Tok} {n : Nat} {m₀ : Str → Option Value} (J : (Str → Option Value) → Heap → Prop)
    (hh : A.handled = none) (hr : IsRange s.heap r a₀ b₀ 1 t₀ u₀ v₀) (hsmall : Builtin.Range.small a₀ b₀ 1 = true) (hn : Builtin.Range.rangeSize a₀ b₀ 1 = (n : Int)) (F : Fr g env.locals s.heap m₀)
    (hJ : ∀ h, (∀ a o, s.heap.get? a = some o → h.get? a = some o) → J m₀ h)
    (stab : ∀ m h h', J m h → NoTup h [env.locals, s.heap.objs.size] → (∀ a o, h.get? a = some o → a ≠ env.locals → a ≠ s.heap.objs.size → h'.get? a = some o) → J m h')
    (turn : ∀ (i : Int) t h tk m₁ o, a₀ ≤ i → i < a₀ + (n : Int) → env.locals ≠ s.heap.objs.size → J m₁ h → Fr g env.locals h (fun y => if y = x then some (.int i t) else m₁ y) → h.get? s.heap.objs.size = some o → o.cls = .type "range_iterator" →
      wpAny (model prog w) A (execs body env) (TurnEnd g env.locals s.heap.objs.size J s o Q) E { s with heap := h, toks := tk })
    (done : ∀ m h tk, J m h → Fr g env.locals h m → Q .next { s with heap := h, toks := tk }) :
    wpAny (model prog w) A (pyIter (.ref r)) (fun it s₂ => LoopAtV prog w A g env x body Q E it s₂) E s := by
  refine wpAny_pyIter_range hr hsmall ?_
  have W : Walks prog w A s.heap.objs.size [s.heap.objs.size] [s.heap.objs.size] n (fun i v => i < n ∧ ∃ t, v = .int (a₀ + i * 1) t)
      (fun i h => IsRangeIter h s.heap.objs.size (a₀ + (i : Nat) * 1) ((n : Int) - (i : Nat)) 1) := (Walks.range hh _ a₀ 1 n).bound
  have hnew := next_is_new F
  have hLI : env.locals ≠ s.heap.objs.size := Nat.ne_of_lt F.ns.lt
  let J' : Nat → (Str → Option Value) → List (Addr × Obj) → Prop := fun _ m₁ news₁ => ∃ hk, news₁ = restOf g env.locals hk [s.heap.objs.size] ∧ Anc g hk ∧ NoTup hk [env.locals, s.heap.objs.size] ∧ J m₁ hk
  have up : ∀ a o, s.heap.get? a = some o → (s.heap.push (itR a₀ (n : Int))).get? a = some o := fun a o e => Heap.get?_push_of_some _ e
  have F1 := F.push (itR a₀ (n : Int))
  have hI1 : (s.heap.push (itR a₀ (n : Int))).get? s.heap.objs.size = some (itR a₀ (n : Int)) := Heap.get?_push_size _ rfl
  have e0 : itR a₀ (n : Int) = itR (a₀ + ((0 : Nat) : Int) * 1) ((n : Int) - ((0 : Nat) : Int)) := by simp
  refine ⟨_, _, _, n, _, _, m₀, restOf g env.locals (s.heap.push (itR a₀ (n : Int))) [s.heap.objs.size], J', rfl, W, ?_, ?_, ?_, (by show IsRangeIter _ _ _ _ _; rw [hn]; simpa using Heap.get?_push_size _ rfl), (by rw [hn]; exact F1), (by rw [hn]; exact rest_news),
    ⟨_, rfl, ⟨fun b o e => F1.keep b o e⟩, Fr.noTup F1 (.cons hI1 (fun vs k e => itR_tup e) .nil), hJ _ up⟩, ?_, ?_⟩
  · intro hm
    exact hLI (List.mem_singleton.mp hm)
  · intro b hb
    rw [List.mem_singleton.mp hb]
    exact hnew
  · intro p hp
    exact (mem_restOf.mp (show (p.1, p.2) ∈ restOf _ _ _ _ from hp)).2.2.2
  · rintro i v m₁ news₁ s₁ own ⟨hh', tk', rfl⟩ hin ⟨hlt, t, rfl⟩ ⟨hk, rfl, AN, Z, hJ1⟩ hoff hown hget hall hst F₁ N₁
    have hst' : hh'.get? s.heap.objs.size = some (itR (a₀ + ((i + 1 : Nat) : Int) * 1) ((n : Int) - ((i + 1 : Nat) : Int))) := hst
    have hkeep : ∀ a o, hk.get? a = some o → a ≠ env.locals → a ≠ s.heap.objs.size → hh'.get? a = some o := fun a o e h1 h2 =>
      kept_now AN F₁ N₁ (fun p hp => List.mem_append_right _ hp) a o e h1 (fun q => h2 (List.mem_singleton.mp q))
    refine wpAny_mono (turn (a₀ + (i : Int) * 1) t hh' tk' m₁ _ (by omega) (by omega) hLI (stab _ _ _ hJ1 Z hkeep) F₁ hst' rfl) (fun f s₂ p => ?_) fun _ _ e => e
    have fin : (∃ h' tk' m', s₂ = { s with heap := h', toks := tk' } ∧ Fr g env.locals h' m' ∧ h'.get? s.heap.objs.size = some (itR (a₀ + ((i + 1 : Nat) : Int) * 1) ((n : Int) - ((i + 1 : Nat) : Int))) ∧ J m' h') →
        LoopStepU g env.locals [s.heap.objs.size] own (J' (i + 1)) { s with heap := hh', toks := tk' } .next s₂ := by
      rintro ⟨h', tk, m', e, F', hI', hJ'⟩
      refine ⟨rfl, h', tk, m', restOf g env.locals h' [s.heap.objs.size], e, F', fun p hp => ?_, fun p hp => ?_, _, rfl, ⟨fun b o e => F'.keep b o e⟩, Fr.noTup F' (.cons hI' (fun vs k e => itR_tup e) .nil), hJ'⟩
      · rcases List.mem_append.mp hp with hp | hp
        · have h1 : p.1 = s.heap.objs.size := List.mem_singleton.mp (hown p hp)
          have h2 : hh'.get? p.1 = some p.2 := hget p hp
          rw [h1, hst'] at h2
          refine ⟨?_, ?_, ?_⟩
          · rw [h1, hI', h2]
          · rw [h1]; exact Ne.symm hLI
          · rw [h1]; exact hnew
        · exact rest_news p hp
      · exact (mem_restOf.mp (show (p.1, p.2) ∈ restOf _ _ _ _ from hp)).2.2.2
    cases f with
    | ret v => exact .ret p
    | brk => exact .brk p
    | next => exact .next (fin p)
    | cont => exact .cont (fin p)
  · rintro h' tk m' news' F' N' _ ⟨hk, rfl, AN, Z, hJ1⟩
    exact done m' h' tk (stab _ _ _ hJ1 Z fun a o e h1 h2 => kept_now AN F' N' (fun p hp => hp) a o e h1 (fun q => h2 (List.mem_singleton.mp q))) F'
end
theorem law_start {P : Prop} {g h : Heap} {L : Addr} {m : Str → Option Value} (F : Fr g L h m) (k : Below callerA g [] g → Anc g h → Since [] L h h → NoTup h [L] → News g L h (restOf g L h []) → P) : P :=
  k (below_caller g) ⟨fun b o e => F.keep b o e⟩ Since.refl (Fr.noTup F NoTup.nil) rest_news
theorem to_top {M : Model} {name : Str} {scope : Scope} {L a : Addr} {cd : Value} {b : List Stmt} {Q : Flow → Shared → Prop} {E : Value → Shared → Prop} {s : Shared}
    (hE : PassesOwn M (callerA.deeper (envOf name scope L a cd)) (envOf name scope L a cd) E)
    (k : ∀ gd E', PassesOwn M (ktrTop 302 7 gd name scope L a cd [] []) (envX name scope L a cd []) E' → wpAny M (ktrTop 302 7 gd name scope L a cd [] []) (execs b (envX name scope L a cd [])) Q E' s) :
    wpAny M (callerA.deeper (envOf name scope L a cd)) (execs b (envOf name scope L a cd)) Q E s := k _ _ hE
theorem split_ret {M : Model} {A : Around} {b : List Stmt} {env : Env} {Q : Flow → Shared → Prop} {E : Value → Shared → Prop} {s : Shared} {g h : Heap} {L : Addr} {m : Str → Option Value} (_ : Fr g L h m) (hret : ∀ h' tk' m', Fr g L h' m' → Q (.ret (.bool true)) { s with heap := h', toks := tk' })
    (k : ∀ Q' : Flow → Shared → Prop, (∀ h' tk' m', Fr g L h' m' → Q' (.ret (.bool true)) { s with heap := h', toks := tk' }) → wpAny M A (execs b env) Q' E s) : wpAny M A (execs b env) Q E s := k Q hret
theorem made1_k {P : Prop} {g h' : Heap} {L x : Addr} {l' : List (Addr × Obj)} {ox : Obj} (n1 : NewAt g L h' x) (e : h'.get? x = some ox) (N : News g L h' l') (k : News g L h' ((x, ox) :: l') → P) : P := k (News.add n1 e N)
theorem range_few3 {d : Int} (h1 : 1 ≤ d) (h3 : d ≤ 3) : Builtin.Range.small 0 d 1 = true ∧ Builtin.Range.rangeSize 0 d 1 = (d.toNat : Int) := by
  have : d = 1 ∨ d = 2 ∨ d = 3 := by omega
  rcases this with rfl | rfl | rfl <;> decide
theorem clamp_at (n : Int) : 1 ≤ (if (if 3 < n then 3 else n) > 1 then if 3 < n then 3 else n else 1) ∧ (if (if 3 < n then 3 else n) > 1 then if 3 < n then 3 else n else 1) ≤ 3 := by
  by_cases h : 3 < n
  · rw [if_pos h]; exact ⟨by decide, by decide⟩
  · rw [if_neg h]
    by_cases h1 : n > 1
    · rw [if_pos h1]; omega
    · rw [if_neg h1]; omega
theorem range_clamp (n : Int) : Builtin.Range.small 0 (if (if 3 < n then 3 else n) > 1 then if 3 < n then 3 else n else 1) 1 = true ∧
    Builtin.Range.rangeSize 0 (if (if 3 < n then 3 else n) > 1 then if 3 < n then 3 else n else 1) 1 = (((if (if 3 < n then 3 else n) > 1 then if 3 < n then 3 else n else 1).toNat : Nat) : Int) := range_few3 (clamp_at n).1 (clamp_at n).2
theorem lt_clamp {n k : Int} (h : k < 0 + (((if (if 3 < n then 3 else n) > 1 then if 3 < n then 3 else n else 1).toNat : Nat) : Int)) : k < 3 := by
  have := clamp_at n
  omega
theorem same_law {v : Value} (h : v = .bool (Info.same ⟨1, 2, 3, 4, 5, 4⟩ ⟨1, 2, 3, 4, 6, 4⟩)) : v = .bool false := h.trans (by decide +kernel)
theorem lines_64 : True := by
  k_with "own call ref" => (k_here; (with_reducible show wpAny _ _ (call (Value.ref 215) _) _ _ _); k_dflt (refine' Does.use (is_same_end_ok _ _ _ ⟨1, 2, 3, 4, 5, 4⟩ ⟨1, 2, 3, 4, 6, 4⟩) ?kB ?kF ?kX ?kT ?kk ?km_162 ?kp_162 ?kd ?ku ?_; walk_at "mine use"; (case kp_162 => exact ⟨by walk_at "mine newinfo", by walk_at "mine newinfo"⟩); (case km_162 => walk_at "mine own"); walk_at "mine room"); intro r' h' tk' F' K' P'; walk_at "mine after"; (replace P' := same_law P'); subst P')
  k_with "own call ref" => (k_here; (with_reducible show wpAny _ _ (call (Value.ref 243) _) _ _ _); k_dflt (refine' DoesG.use (pool_ok _ _ _ _ _ _) ?kB ?kF ?kX ?kT ?kk ?kg_163 ?km_163 ?kp_163 ?kd ?ku ?_; walk_at "mine use"; (case kg_163 => assumption); (case kp_163 => exact ⟨by assumption, by assumption, by omega, by omega⟩); (case km_163 => walk_at "mine own"); walk_at "mine room"); intro r' h' tk' F' K' P'; obtain ⟨x', e', fx', sr'⟩ := P'; subst e'; obtain ⟨hz', u0', u1', u2'⟩ := sr'; have nw1' := rest_of_fresh (by k_asm) fx' hz'; have of1' := off2_fresh fx' (by k_asm); walk_at "mine anew"; (rename News _ _ _ _ => kNm); (with_reducible rename NoTup _ _ => kZ); (with_reducible rename Since _ _ _ _ => kS); refine grow_k kZ kS kNm (by walk_at "mine gr") hz' list_noTup ?_; clear kZ kS kNm; intro kZ2 kS2 kNm; refine made1_k nw1' hz' kNm ?_; clear kNm; intro kNm; (try k_sweep))
  trivial

set_option maxHeartbeats 8000000 in
theorem law_holds : PySem.Challenge.rw_xm0983_01.Holds := hd (by
  k_go0
  rename Fr _ _ _ _ => F
  refine to_top (by first | exact PassesOwn.never | exact PassesOwn.leaving) fun gd E' hE => ?_
  dsimp only at F hE ⊢
  rename IntsAre _ _ => hI
  rename Heap.IsList _ _ _ => hL
  refine split_ret F ?hret fun Q' hret => ?_
  case hret =>
    clear F
    intro h' tk' m' F'
    dsimp only
    first | wrow_close | law_fin | w_report
  (rename Below _ _ _ _ => q; clear q)
  (rename Dflts _ _ _ _ _ _ => q; clear q)
  (rename Heap.CodeRec _ _ _ => q; clear q)
  (rename BMod _ _ _ _ _ => q; clear q)
  (rename TopW _ _ _ => q; clear q)
  (rename TopE _ _ _ _ => q; clear q)
  (rename Tables _ _ _ _ => q; clear q)
  (rename Glob _ _ _ _ _ _ _ _ => q; clear q)
  (rename LooseAre _ _ _ => q; clear q)
  (rename Flt.MathXP _ _ _ => q; clear q)
  (rename Ground _ _ _ _ _ _ _ _ _ => q; clear q)
  (rename ReadsAll _ _ _ _ => q; clear q)
  (rename Well _ _ _ _ => q; clear q)
  (rename Reads _ _ _ _ => q; clear q)
  (rename ReadsAllW _ _ _ _ _ _ => q; clear q)
  (rename News _ _ _ _ => q; clear q)
  (rename Hook.says _ _ _ => q; clear q)
  dsimp only at hret
  refine law_start F ?_
  intro BL AN AK NT N
  have hlen : (_ : List Int).length ≤ 63 := Nat.not_lt.mp fun q => absurd (Int.ofNat_lt.mpr q) (by assumption)
  k_steps
  all_goals unfold Halt
  refine iter_turnsB (fun m _ => m (Str.ofString "script") = some (.ref _)) rfl (by assumption) (range_clamp _).1 (range_clamp _).2 (by k_asm) (fun _ _ => rfl) (fun _ _ _ j _ _ => j) (fun k t h tk m₁ o hk0 hk1 hLI hJ F1 hIt hIc => ?_) (fun m h tk j F2 => ?_)
  · have hk3 := lt_clamp hk1
    clear hk1
    replace F1 := Fr.names (x := Str.ofString "script") (y := Str.ofString "k") F1 ((if_neg (show ¬ Str.ofString "script" = Str.ofString "k" by decide +kernel)).trans hJ) rfl
    clear AN AK NT
    clear hret
    refine law_start F1 ?_
    intro BL2 AN AK NT N
    with_reducible show wpAny _ _ _ _ _ _
    k_steps
    all_goals exact ⟨_, _, _, rfl, (by k_asm), Since.get (by walk_at "mine kept") _ _ hIt (Ne.symm hLI) (by simp only [List.mem_singleton]; exact Ne.symm (fresh_ne (by with_reducible assumption) hIt)), rfl⟩
  · k_steps
    dsimp only
    exact hret _ _ _ (by k_asm))

end Mine
set_option maxRecDepth 100000 in
set_option maxHeartbeats 8000000 in
theorem PySem.Challenge.cw_xm0983_01_holds : PySem.Challenge.rw_xm0983_01.Holds :=
  Mine.law_holds
