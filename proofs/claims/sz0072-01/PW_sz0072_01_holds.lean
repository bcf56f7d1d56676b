import PyProof.Rows.All
import Wide.All
import OpenK.AllK
import Wide.FinOn
import PySem.Challenge.RW_sz0072_01
open PySem PySem.W PyProof.Rows PySem.Calls PySem.Spec
set_option Elab.async false
set_option maxRecDepth 100000
namespace S72
set_option maxHeartbeats 8000000 in
open_top hd for PySem.Challenge.rw_sz0072_01
end S72

namespace S72
theorem fill_S72Base (P : Params) : hd.heap_39 P = hd.heap_39 P ∧ Challenge.rw_sz0072_01 = Challenge.rw_sz0072_01 := by
  w_top off
  k_fill
  exact ⟨rfl, rfl⟩

/-- all but the object at L stands as it stood -/
def StaysBut (L : Addr) (h h' : Heap) : Prop := ∀ b o, b ≠ L → h.get? b = some o → h'.get? b = some o
theorem StaysBut.refl {L : Addr} {h : Heap} : StaysBut L h h := fun _ _ _ e => e
theorem StaysBut.trans {L : Addr} {h h' h'' : Heap} (x : StaysBut L h h') (y : StaysBut L h' h'') : StaysBut L h h'' := fun b o hb e => y b o hb (x b o hb e)
theorem StaysBut.news {h₀ h h' : Heap} {L : Addr} {news : List (Addr × Obj)} (N : News h₀ L h news) (x : StaysBut L h h') : News h₀ L h' news :=
  fun p hp => ⟨x _ _ (N p hp).2.1 (N p hp).1, (N p hp).2⟩

/-- what a call does: from any frame, with the objects at hand as Pre says, it ends, keeps every object that stood, and Post holds of (heap before, heap behind, value) -/
def Does (w : World) (mean : ExcName → Option Value) (mg mb : Str → Option Value) (dN uN : Nat) (f : Addr) (vs : List Value) (Pre : Heap → Prop) (Post : Heap → Heap → Value → Prop) : Prop :=
  ∀ (dp un : Nat) (gd : Option (List Code)) (cn : Str) (cs : Scope) (L a : Addr) (ccd : Value) (cl : List (Str × Addr)) (outer : List Env) (A₀ : Around) (base h₀ : Heap) (m : Str → Option Value) (s : Shared) (Q E : Value → Shared → Prop),
    Below A₀ base outer h₀ → Fr h₀ L s.heap m → (hd.heap_39 w.params).In h₀ → Top hd.view_39 (looseW hd.view_39 []) mean mg mb h₀ → cs.kind = .function →
    dp + dN < recursionLimit → un + uN < cLine → Pre s.heap →
    (∀ r h' tk', Fr h₀ L h' m → StaysBut L s.heap h' → Post s.heap h' r → Q r { s with heap := h', toks := tk' }) →
    wpAny (model Challenge.rw_sz0072_01.row.prog w) (ktrTop dp un gd cn cs L a ccd cl outer) (call (.ref f) vs) Q E s

theorem fr_stays {h₀ h h' : Heap} {L : Addr} {m : Str → Option Value} (F : Fr h₀ L h m) (k : h.StaysIn h') : Fr h₀ L h' m := by
  obtain ⟨oL, a1, a2, hL, a3⟩ := F.ns
  exact ⟨⟨oL, a1, a2, k _ _ hL, a3⟩, fun b o e => k b o (F.keep b o e), F.above⟩

theorem news_nil_hide (h : Heap) : hideAll h [] = h := by
  first | rfl | simp [hideAll]

theorem does_of {w : World} {mean : ExcName → Option Value} {mg mb : Str → Option Value} {dN uN : Nat} {f : Addr} {vs : List Value} {Pre : Heap → Prop} {Post : Heap → Heap → Value → Prop}
    {name qual : Str} {params : Arguments} {body : List Stmt} {scope : Scope} {dV kV doc pm cdv ct oc : Value} {an od : Option Addr} {osl : Array (Option Value)} {binds : List (Str × Value)}
    (ho : (hd.heap_39 w.params).lookup f = some ⟨oc, od, .func (fnOf name qual params body scope dV kV doc pm an cdv ct), osl⟩) (hcd : codeIn (hd.heap_39 w.params) cdv qual = true)
    (hdN : 0 < dN)
    (hbind : ∀ s, BindsTo s (fnOf name qual params body scope dV kV doc pm an cdv ct) ⟨vs, []⟩ binds) (hloc : ∀ y ∈ binds, scope.names.lookup y.1 = some .local)
    (h : ∀ (dp un : Nat) (gd : Option (List Code)) (outer : List Env) (A₀ : Around) (base g : Heap) (L : Addr) (h₁ : Heap) (s : Shared) (Q : Value → Shared → Prop),
      Below A₀ base outer g → Fr g L h₁ (fun y => binds.reverse.lookup y) → (hd.heap_39 w.params).In g → Top hd.view_39 (looseW hd.view_39 []) mean mg mb g →
      dp + dN ≤ recursionLimit → un + uN < cLine + 3 → Pre g → g.objs.size = L →
      (∀ r h' tk', g.StaysIn h' → Post g h' r → Q r { s with heap := h', toks := tk' }) →
      wpAny (model Challenge.rw_sz0072_01.row.prog w) (ktrTop dp un gd qual scope L f cdv [] outer) (execs body (envOf qual scope L f cdv))
        (fun fl s' => Q (match fl with | .ret v => v | _ => .none) s') (fun _ _ => False) { s with heap := h₁ })
    (hco : scope.isCoroutine = false := by rfl) (hgen : scope.isGenerator = false := by rfl) (hk : scope.kind = .function := by rfl)
    (hcell : ∀ x ∈ scope.names, x.2 ≠ .cell := by decide) : Does w mean mg mb dN uN f vs Pre Post := by
  intro dp un gd cn cs L a ccd cl outer A₀ base h₀ m s Q E B F X T hck hd hu hpre hret
  have N : News h₀ L s.heap [] := News.nil
  have G := groundX (R := fun _ _ => True) (A := ktrTop dp un gd cn cs L a ccd cl outer) B F N rfl rfl hck
  rw [List.map_nil, news_nil_hide] at G
  obtain ⟨FG, BG, st, _⟩ := G
  have X' := X.keeps F.keep
  have T' := T.keeps F.keep
  refine wpAny_call (codeAny_call_def (fd := fnOf name qual params body scope dV kV doc pm an cdv ct) (body := body) (binds := binds) (by show dp < recursionLimit; omega) (X' _ _ ho) rfl T'.nolimit (codeRec_of X' hcd) rfl (hbind s) hcell hloc (fun h₁ hns hk₁ => ?_) hco hgen hk)
  refine wpAny_mono (h (dp + 1) (un + 3) gd _ _ base s.heap s.heap.objs.size h₁ { s with heap := h₁, toks := s.toks + binds.length } Q BG ⟨hns, hk₁, Nat.le_refl _⟩ X' T' (by omega) (by omega) hpre rfl fun r h' tk' k p => hret r h' tk' (fr_stays F k) (fun b o _ e => k b o e) p) (fun fl s' hq => hq) fun _ _ x => x.elim

/-- everything that a frame's heap has beyond the ground -/
theorem others (h₀ : Heap) (L : Addr) (h : Heap) : ∃ news : List (Addr × Obj), News h₀ L h news ∧ (∀ p ∈ news, p.1 < h.objs.size) ∧ ∀ a o, h.get? a = some o → a ≠ L → h₀.get? a = none → (a, o) ∈ news := by
  refine ⟨(List.range h.objs.size).filterMap fun a => match h.get? a with
    | some o => if a ≠ L ∧ (h₀.get? a).isNone then some (a, o) else none
    | none => none, ?_, ?_, ?_⟩
  · intro p hp
    obtain ⟨a, ha, e⟩ := List.mem_filterMap.mp hp
    cases q : h.get? a with
    | none => rw [q] at e; cases e
    | some o =>
      rw [q] at e
      dsimp only at e
      split at e
      · rename_i hc
        cases e
        exact ⟨q, hc.1, Option.isNone_iff_eq_none.mp hc.2⟩
      · cases e
  · intro p hp
    obtain ⟨a, ha, e⟩ := List.mem_filterMap.mp hp
    cases q : h.get? a with
    | none => rw [q] at e; cases e
    | some o =>
      rw [q] at e
      dsimp only at e
      split at e
      · cases e; exact List.mem_range.mp ha
      · cases e
  · intro a o e hL h0
    refine List.mem_filterMap.mpr ⟨a, List.mem_range.mpr (Heap.lt_size e), ?_⟩
    rw [e]
    simp [hL, h0]

theorem stays_of_others {h₀ h h' : Heap} {L : Addr} {m' : Str → Option Value} {news : List (Addr × Obj)} (F' : Fr h₀ L h' m') (N' : News h₀ L h' news)
    (F : ∀ b o, h₀.get? b = some o → h.get? b = some o) (all : ∀ a o, h.get? a = some o → a ≠ L → h₀.get? a = none → (a, o) ∈ news) : StaysBut L h h' := by
  intro b o hb e
  cases q : h₀.get? b with
  | none => exact (N' _ (all b o e hb q)).1
  | some o' =>
    have := F b o' q
    rw [e] at this
    cases this
    exact F'.keep b o q


/-- trees as data -/
inductive Tr where
  | none
  | bool (b : Bool)
  | int (i : Int)
  | str (x : Str)
  | list (ts : List Tr)
  | tuple (ts : List Tr)
  | node (k : Str) (ts : List Tr)

abbrev tupOf (its : Array Value) (n : Nat) : Obj := { cls := .type "tuple", data := .seq its n }
abbrev nodeEs (w : World) (kv l p : Value) (t₁ t₂ t₃ t₄ : Tok) : List DictEntry :=
  [{ hash := PyData.keyHash w.params (Str.ofString "kind"), key := .str (Str.ofString "kind") t₁, val := kv },
   { hash := PyData.keyHash w.params (Str.ofString "line"), key := .str (Str.ofString "line") t₂, val := l },
   { hash := PyData.keyHash w.params (Str.ofString "parts"), key := .str (Str.ofString "parts") t₃, val := p },
   { hash := PyData.keyHash w.params (Str.ofString "scope"), key := .str (Str.ofString "scope") t₄, val := .none }]

mutual
/-- the objects that S says bear the tree at the value -/
inductive Rep (w : World) (S : Addr → Obj → Prop) : Value → Tr → Prop
  | none : Rep w S .none .none
  | bool (b : Bool) : Rep w S (.bool b) (.bool b)
  | int (i : Int) (t : Tok) : Rep w S (.int i t) (.int i)
  | str (x : Str) (t : Tok) : Rep w S (.str x t) (.str x)
  | list {a : Addr} {vs : List Value} {n : Nat} {ts : List Tr} : S a (listOf vs.toArray n) → RepL w S vs ts → Rep w S (.ref a) (.list ts)
  | tuple {a : Addr} {vs : List Value} {n : Nat} {ts : List Tr} : S a (tupOf vs.toArray n) → RepL w S vs ts → Rep w S (.ref a) (.tuple ts)
  | node {a dx p : Addr} {vs : List Value} {n c : Nat} {ts : List Tr} {k : Str} {tk t₁ t₂ t₃ t₄ : Tok} {l : Value} : S a (instObj 31 dx) → S dx (dictOf (nodeEs w (.str k tk) l (.ref p) t₁ t₂ t₃ t₄) n) → S p (listOf vs.toArray c) → RepL w S vs ts → Rep w S (.ref a) (.node k ts)
inductive RepL (w : World) (S : Addr → Obj → Prop) : List Value → List Tr → Prop
  | nil : RepL w S [] []
  | cons {v : Value} {vs : List Value} {t : Tr} {ts : List Tr} : Rep w S v t → RepL w S vs ts → RepL w S (v :: vs) (t :: ts)
end
mutual
theorem Rep.mono {w : World} {S S' : Addr → Obj → Prop} (h : ∀ a o, S a o → S' a o) : ∀ {v : Value} {t : Tr}, Rep w S v t → Rep w S' v t
  | _, _, .none => .none
  | _, _, .bool b => .bool b
  | _, _, .int i t => .int i t
  | _, _, .str x t => .str x t
  | _, _, .list a r => .list (h _ _ a) (RepL.mono h r)
  | _, _, .tuple a r => .tuple (h _ _ a) (RepL.mono h r)
  | _, _, .node a b c r => .node (h _ _ a) (h _ _ b) (h _ _ c) (RepL.mono h r)
theorem RepL.mono {w : World} {S S' : Addr → Obj → Prop} (h : ∀ a o, S a o → S' a o) : ∀ {vs : List Value} {ts : List Tr}, RepL w S vs ts → RepL w S' vs ts
  | _, _, .nil => .nil
  | _, _, .cons a r => .cons (Rep.mono h a) (RepL.mono h r)
end
abbrev SH (h : Heap) (a : Addr) (o : Obj) : Prop := h.get? a = some o

section
variable {w : World} {mean : ExcName → Option Value} {mg mb : Str → Option Value}
theorem node_does (kv : Value) (l p : Value) : Does w mean mg mb 9 50 31 [kv, l, p] (fun _ => True)
    (fun g h' r => ∃ x dx t₁ t₂ t₃ t₄ n, r = .ref x ∧ h'.get? x = some (instObj 31 dx) ∧ h'.get? dx = some (dictOf (nodeEs w kv l p t₁ t₂ t₃ t₄) n) ∧ g.get? x = none ∧ g.get? dx = none) := by
  unfold Does
  k_fill
  intro dp un gd cn cs L a ccd cl outer A₀ base h₀ m s Q E B F X T hck hd hu hpre hret
  obtain ⟨news, N, lt, all⟩ := others h₀ L s.heap
  have lt' := allLt_of lt
  clear lt hpre
  have Fk := F.keep
  have oL : ∃ o, s.heap.get? L = some o := by obtain ⟨o, _, _, e, _⟩ := F.ns; exact ⟨o, e⟩
  refine wpAny_mono (Q := Q) (E := fun _ _ => False) ?_ (fun _ _ h => h) (fun _ _ h => h.elim)
  k_dflt (refine' call_cls F X N ?k4 ?k5 ?k6 ?_; (case k4 => k_is); (case k5 => k_is); (case k6 => k_is))
  intro x' d' h' F' N' l1 l2
  have l3 := l1
  have l1 := allLt_of l1
  k_lt2 l2
  k_sweep
  k_dflt ktr_enter
  k_steps
  rename News h₀ L _ _ => kN
  rename Fr h₀ L _ _ => kF
  have zx := kN _ (.head _)
  have zd := kN _ (.tail _ (.head _))
  refine hret _ _ _ kF (stays_of_others kF (fun p hp => kN p (.tail _ (.tail _ hp))) Fk all) ⟨x', d', _, _, _, _, _, rfl, zx.1, zd.1, ?_, ?_⟩
  · cases q : s.heap.get? x' with
    | none => rfl
    | some o => exact absurd (Nat.lt_trans (l3 _ (all x' o q zx.2.1 zx.2.2)) l2) (Nat.lt_irrefl _)
  · cases q : s.heap.get? d' with
    | none => rfl
    | some o => exact absurd (l3 _ (all d' o q zd.2.1 zd.2.2)) (Nat.lt_irrefl _)
end
end S72

namespace S72
theorem fill_S72Kind (P : Params) : hd.heap_39 P = hd.heap_39 P ∧ Challenge.rw_sz0072_01 = Challenge.rw_sz0072_01 := by
  w_top off
  k_fill
  exact ⟨rfl, rfl⟩


theorem s72_inst {g h : Heap} {L x dx : Addr} {m : Str → Option Value} {es : List DictEntry} {n : Nat} (F : Fr g L h m) (h1 : g.get? x = some (instObj 31 dx)) (h2 : g.get? dx = some (dictOf es n)) : InstAt h x (instObj 31 dx) 31 (some (dictOf es n)) :=
  ⟨F.keep _ _ h1, rfl, rfl, F.keep _ _ h2⟩
theorem s72_at {g h : Heap} {L a : Addr} {m : Str → Option Value} {o : Obj} {N : String} (F : Fr g L h m) (h1 : g.get? a = some o) (hc : o.cls = .type N) : KitAt a N h := ⟨o, F.keep _ _ h1, hc⟩
local macro_rules | `(tactic| k_inst) => `(tactic| (refine' s72_inst ?F ?h1 ?h2; (case F => k_asm); (case h1 => assumption); (case h2 => assumption)))
local macro_rules | `(tactic| kit_at) => `(tactic| (refine' s72_at ?F ?h1 ?c; (case F => k_asm); (case h1 => assumption); (case c => exact rfl)))
local macro_rules | `(tactic| k_room) => `(tactic| ktr_room)

def Tr.isNode : Tr → Bool
  | .node _ _ => true
  | _ => false
def Tr.isTup : Tr → Bool
  | .tuple _ => true
  | _ => false
def Tr.isBool : Tr → Bool
  | .bool _ => true
  | _ => false
def Tr.isSeq : Tr → Bool
  | .list _ => true
  | .tuple _ => true
  | _ => false
def Tr.isFull : Tr → Bool
  | .node _ _ => true
  | .list _ => true
  | .tuple _ => true
  | _ => false
def sameKind : Tr → Tr → Bool
  | .node k _, .node k' _ => k == k'
  | .list _, .list _ => true
  | .tuple _, .tuple _ => true
  | .none, .none => true
  | .bool b, .bool c => b == c
  | .int i, .int j => i == j
  | .str x, .str y => x == y
  | _, _ => false

section
variable {w : World} {A : Around} {E : Value → Shared → Prop} {s : Shared} {g : Heap} {L tp : Addr} {m : Str → Option Value} {v : Value} {t : Tr} {Q : Value → Shared → Prop} {news : List (Addr × Obj)}

theorem isi_Node (R : Rep w (SH g) v t) (F : Fr g L s.heap m) (X : (hd.heap_39 w.params).In g) (h : ∀ tk, Q (.bool t.isNode) { s with toks := tk }) :
    wpAny (model Challenge.rw_sz0072_01.row.prog w) A (call (.builtin "isinstance") [v, .ref 31]) Q E s := by
  have X' := X.keeps F.keep
  cases R with
  | none => exact kia_one (K := hd.heap_39 w.params) kitx_none X' trivial (b := false) (by kit_is) (by kit_nb) h
  | bool b => exact kia_one (K := hd.heap_39 w.params) kitx_bool X' trivial (b := false) (by kit_is) (by kit_nb) h
  | int b => exact kia_one (K := hd.heap_39 w.params) kitx_int X' trivial (b := false) (by kit_is) (by kit_nb) h
  | str b => exact kia_one (K := hd.heap_39 w.params) kitx_str X' trivial (b := false) (by kit_is) (by kit_nb) h
  | list h1 _ => exact kia_one (K := hd.heap_39 w.params) kitx_list X' (s72_at F h1 rfl) (b := false) (by kit_is) (by kit_nb) h
  | tuple h1 _ => exact kia_one (K := hd.heap_39 w.params) kitx_tuple X' (s72_at F h1 rfl) (b := false) (by kit_is) (by kit_nb) h
  | node h1 h2 _ _ => exact kia_one (K := hd.heap_39 w.params) (kitx_own (by k_is) (by k_is) (by k_is) (by k_is) (by k_is) (by k_is)) X' (s72_inst F h1 h2) (b := true) (by kit_is) (by kit_nb) h

theorem isi_tuple (R : Rep w (SH g) v t) (F : Fr g L s.heap m) (X : (hd.heap_39 w.params).In g) (h : ∀ tk, Q (.bool t.isTup) { s with toks := tk }) :
    wpAny (model Challenge.rw_sz0072_01.row.prog w) A (call (.builtin "isinstance") [v, .type "tuple"]) Q E s := by
  have X' := X.keeps F.keep
  cases R with
  | none => exact kia_one (K := hd.heap_39 w.params) kitx_none X' trivial (b := false) (by kit_is) (by kit_nb) h
  | bool b => exact kia_one (K := hd.heap_39 w.params) kitx_bool X' trivial (b := false) (by kit_is) (by kit_nb) h
  | int b => exact kia_one (K := hd.heap_39 w.params) kitx_int X' trivial (b := false) (by kit_is) (by kit_nb) h
  | str b => exact kia_one (K := hd.heap_39 w.params) kitx_str X' trivial (b := false) (by kit_is) (by kit_nb) h
  | list h1 _ => exact kia_one (K := hd.heap_39 w.params) kitx_list X' (s72_at F h1 rfl) (b := false) (by kit_is) (by kit_nb) h
  | tuple h1 _ => exact kia_one (K := hd.heap_39 w.params) kitx_tuple X' (s72_at F h1 rfl) (b := true) (by kit_is) (by kit_nb) h
  | node h1 h2 _ _ => exact kia_one (K := hd.heap_39 w.params) (kitx_own (by k_is) (by k_is) (by k_is) (by k_is) (by k_is) (by k_is)) X' (s72_inst F h1 h2) (b := false) (by kit_is) (by kit_nb) h

theorem isi_bool (R : Rep w (SH g) v t) (F : Fr g L s.heap m) (X : (hd.heap_39 w.params).In g) (h : ∀ tk, Q (.bool t.isBool) { s with toks := tk }) :
    wpAny (model Challenge.rw_sz0072_01.row.prog w) A (call (.builtin "isinstance") [v, .type "bool"]) Q E s := by
  have X' := X.keeps F.keep
  cases R with
  | none => exact kia_one (K := hd.heap_39 w.params) kitx_none X' trivial (b := false) (by kit_is) (by kit_nb) h
  | bool b => exact kia_one (K := hd.heap_39 w.params) kitx_bool X' trivial (b := true) (by kit_is) (by kit_nb) h
  | int b => exact kia_one (K := hd.heap_39 w.params) kitx_int X' trivial (b := false) (by kit_is) (by kit_nb) h
  | str b => exact kia_one (K := hd.heap_39 w.params) kitx_str X' trivial (b := false) (by kit_is) (by kit_nb) h
  | list h1 _ => exact kia_one (K := hd.heap_39 w.params) kitx_list X' (s72_at F h1 rfl) (b := false) (by kit_is) (by kit_nb) h
  | tuple h1 _ => exact kia_one (K := hd.heap_39 w.params) kitx_tuple X' (s72_at F h1 rfl) (b := false) (by kit_is) (by kit_nb) h
  | node h1 h2 _ _ => exact kia_one (K := hd.heap_39 w.params) (kitx_own (by k_is) (by k_is) (by k_is) (by k_is) (by k_is) (by k_is)) X' (s72_inst F h1 h2) (b := false) (by kit_is) (by kit_nb) h

theorem isi_seq (R : Rep w (SH g) v t) (F : Fr g L s.heap m) (N : News g L s.heap news) (X : (hd.heap_39 w.params).In g) (hm : (tp, ({ cls := .type "tuple", data := .seq [Value.type "list", Value.type "tuple"].toArray } : Obj)) ∈ news) (h : ∀ tk, Q (.bool t.isSeq) { s with toks := tk }) :
    wpAny (model Challenge.rw_sz0072_01.row.prog w) A (call (.builtin "isinstance") [v, .ref tp]) Q E s := by
  have X' := X.keeps F.keep
  have p := kitTp_N N hm
  cases R with
  | none => exact kia_tup (K := hd.heap_39 w.params) kitx_none X' trivial p (b := false) (by kit_is) (by kit_nb) h
  | bool b => exact kia_tup (K := hd.heap_39 w.params) kitx_bool X' trivial p (b := false) (by kit_is) (by kit_nb) h
  | int b => exact kia_tup (K := hd.heap_39 w.params) kitx_int X' trivial p (b := false) (by kit_is) (by kit_nb) h
  | str b => exact kia_tup (K := hd.heap_39 w.params) kitx_str X' trivial p (b := false) (by kit_is) (by kit_nb) h
  | list h1 _ => exact kia_tup (K := hd.heap_39 w.params) kitx_list X' (s72_at F h1 rfl) p (b := true) (by kit_is) (by kit_nb) h
  | tuple h1 _ => exact kia_tup (K := hd.heap_39 w.params) kitx_tuple X' (s72_at F h1 rfl) p (b := true) (by kit_is) (by kit_nb) h
  | node h1 h2 _ _ => exact kia_tup (K := hd.heap_39 w.params) (kitx_own (by k_is) (by k_is) (by k_is) (by k_is) (by k_is) (by k_is)) X' (s72_inst F h1 h2) p (b := false) (by kit_is) (by kit_nb) h

theorem isi_full (R : Rep w (SH g) v t) (F : Fr g L s.heap m) (N : News g L s.heap news) (X : (hd.heap_39 w.params).In g) (hm : (tp, ({ cls := .type "tuple", data := .seq [Value.ref 31, Value.type "list", Value.type "tuple"].toArray } : Obj)) ∈ news) (h : ∀ tk, Q (.bool t.isFull) { s with toks := tk }) :
    wpAny (model Challenge.rw_sz0072_01.row.prog w) A (call (.builtin "isinstance") [v, .ref tp]) Q E s := by
  have X' := X.keeps F.keep
  have p := kitTp_N N hm
  cases R with
  | none => exact kia_tup (K := hd.heap_39 w.params) kitx_none X' trivial p (b := false) (by kit_is) (by kit_nb) h
  | bool b => exact kia_tup (K := hd.heap_39 w.params) kitx_bool X' trivial p (b := false) (by kit_is) (by kit_nb) h
  | int b => exact kia_tup (K := hd.heap_39 w.params) kitx_int X' trivial p (b := false) (by kit_is) (by kit_nb) h
  | str b => exact kia_tup (K := hd.heap_39 w.params) kitx_str X' trivial p (b := false) (by kit_is) (by kit_nb) h
  | list h1 _ => exact kia_tup (K := hd.heap_39 w.params) kitx_list X' (s72_at F h1 rfl) p (b := true) (by kit_is) (by kit_nb) h
  | tuple h1 _ => exact kia_tup (K := hd.heap_39 w.params) kitx_tuple X' (s72_at F h1 rfl) p (b := true) (by kit_is) (by kit_nb) h
  | node h1 h2 _ _ => exact kia_tup (K := hd.heap_39 w.params) (kitx_own (by k_is) (by k_is) (by k_is) (by k_is) (by k_is) (by k_is)) X' (s72_inst F h1 h2) p (b := true) (by kit_is) (by kit_nb) h
end

local macro_rules | `(tactic| walk_at "call builtin:isinstance") => `(tactic| (k_here; k_dflt (first
  | (refine' isi_Node ?R ?F ?X ?_; (case R => with_reducible assumption); (case F => k_asm); (case X => k_asm); k_whole)
  | (refine' isi_tuple ?R ?F ?X ?_; (case R => with_reducible assumption); (case F => k_asm); (case X => k_asm); k_whole)
  | (refine' isi_bool ?R ?F ?X ?_; (case R => with_reducible assumption); (case F => k_asm); (case X => k_asm); k_whole)
  | (refine' isi_seq ?R ?F ?N ?X ?m ?_; (case R => with_reducible assumption); (case F => k_asm); (case N => k_asm); (case X => k_asm); (case m => k_mem); k_whole)
  | (refine' isi_full ?R ?F ?N ?X ?m ?_; (case R => with_reducible assumption); (case F => k_asm); (case N => k_asm); (case X => k_asm); (case m => k_mem); k_whole)); intro tk'))


section
variable {a t : Tr} {ts : List Tr} {k : Str} {b : Bool}
theorem sk1 (h : t.isFull = true) (ha : a.isFull = false) : Value.bool false = Value.bool (sameKind a t) := by
  cases a <;> cases t <;> first | rfl | (cases h; done) | (cases ha; done)
theorem sk3 (h : b = false) (e : (a.isBool == t.isBool) = b) (ht : t.isFull = false) (ha : a.isFull = false) : Value.bool b = Value.bool (sameKind a t) := by
  subst e
  cases a <;> cases t <;> first | rfl | (cases h; done) | (cases ha; done) | (cases ht; done)
theorem sk4 (h : t.isSeq = false) (ha : a.isSeq = true) : Value.bool t.isSeq = Value.bool (sameKind a t) := by
  cases a <;> cases t <;> first | rfl | (cases h; done) | (cases ha; done)
theorem sk5 (e : (a.isTup == t.isTup) = b) (h : t.isSeq = true) (ha : a.isSeq = true) : Value.bool b = Value.bool (sameKind a t) := by
  subst e
  cases a <;> cases t <;> first | rfl | (cases h; done) | (cases ha; done)
theorem sk7 (h : t.isNode = false) : Value.bool t.isNode = Value.bool (sameKind (.node k ts) t) := by
  cases t <;> first | rfl | (cases h; done)
end
section
variable {w : World} {mean : ExcName → Option Value} {mg mb : Str → Option Value}
set_option maxHeartbeats 8000000 in
theorem kind_does (v₁ v₂ : Value) (t₁ t₂ : Tr) : Does w mean mg mb 9 60 54 [v₁, v₂] (fun h => Rep w (SH h) v₁ t₁ ∧ Rep w (SH h) v₂ t₂) (fun _ _ r => r = .bool (sameKind t₁ t₂)) := by
  refine does_of (binds := [(Str.ofString "one", v₁), (Str.ofString "other", v₂)]) (by k_is) (by k_is) (by decide) (fun s => BindsTo.of_eq rfl) (locs rfl) ?_ rfl rfl rfl (by decide)
  intro dp un gd outer A₀ base g L h₁ s Q B F X T hd hu hpre hL hret
  have N : News g L h₁ [] := News.nil
  obtain ⟨R1, R2⟩ := hpre
  cases R1
  all_goals (
    k_steps
    all_goals first
      | exact hret _ _ _ (Fr.keep (by assumption)) (sk1 (by assumption) rfl)
      | exact hret _ _ _ (Fr.keep (by assumption)) (sk3 (by assumption) rfl (by assumption) rfl)
      | exact hret _ _ _ (Fr.keep (by assumption)) (sk4 (by assumption) rfl)
      | exact hret _ _ _ (Fr.keep (by assumption)) (sk5 rfl (by assumption) rfl)
      | exact hret _ _ _ (Fr.keep (by assumption)) (sk7 (by assumption))
      | (cases R2 <;> first
        | ((rename Tr.isFull _ = false => hz); exact (Bool.false_ne_true (show true = false from hz).symm).elim)
        | ((rename Tr.isNode _ = true => hz); exact (Bool.false_ne_true (show false = true from hz)).elim)
        | ((rename (_ == Tr.isBool _) = true => hz); exact (Bool.false_ne_true (show false = true from hz)).elim)
        | (k_steps; all_goals first | exact hret _ _ _ (Fr.keep (by assumption)) rfl | exact hret _ _ _ (Fr.keep (by assumption)) (by rfl))
        | skip)
      | skip)
end
end S72

namespace S72
theorem fill_S72Rules (P : Params) : hd.heap_39 P = hd.heap_39 P ∧ Challenge.rw_sz0072_01 = Challenge.rw_sz0072_01 := by
  w_top off
  k_fill
  exact ⟨rfl, rfl⟩
section
variable {prog : Program} {w : World} {A : Around} {E : Value → Shared → Prop} {s : Shared} {g : Heap} {L p D b : Addr} {m : Str → Option Value} {news news' : List (Addr × Obj)} {vs ys zs : List Value} {n n2 : Nat} {Q : Value → Shared → Prop}
theorem s72_listL (F : Fr g L s.heap m) (N : News g L s.heap news) (h : g.get? p = some (listOf vs.toArray n)) (hz : vs.length ≤ sizeLine)
    (k : ∀ D c h', Fr g L h' m → News g L h' ((D, listOf vs.toArray c) :: news) → (∀ q ∈ news, q.1 < D) → Q (.ref D) { s with heap := h' }) : wpAny (model prog w) A (call (.type "list") [.ref p]) Q E s :=
  list_copyK F N ⟨_, F.keep _ _ h, rfl, _, rfl⟩ k (by rw [List.size_toArray]; exact hz)
theorem s72_listT (F : Fr g L s.heap m) (N : News g L s.heap news) (h : g.get? p = some (tupOf vs.toArray n)) (hz : vs.length ≤ sizeLine)
    (k : ∀ D c h', Fr g L h' m → News g L h' ((D, listOf vs.toArray c) :: news) → (∀ q ∈ news, q.1 < D) → Q (.ref D) { s with heap := h' }) : wpAny (model prog w) A (call (.type "list") [.ref p]) Q E s :=
  list_copyKT F N ⟨_, F.keep _ _ h, rfl, _, rfl⟩ k (by rw [List.size_toArray]; exact hz)
theorem s72_rev {value slice : PySem.Expr} {vk : Value} {ops : List Value} (F : Fr g L s.heap m) (N : News g L s.heap news) (h : (p, listOf vs.toArray n) ∈ news) (pk : IsPart vk (some (-1))) (hz : vs.length ≤ sizeLine)
    (k : ∀ D h', Fr g L h' m → News g L h' ((D, listOf vs.reverse.toArray 0) :: news) → (∀ q ∈ news, q.1 < D) → Q (.ref D) { s with heap := h' })
    (hs : subscripted slice false (.ref p) (.ref s.heap.objs.size) = operate ops (getItem (.ref p) (.ref s.heap.objs.size))) (ht : ∀ r, letTemporaryGo value (.ref p) r = pure ()) :
    wpAny (model prog w) A (subscriptTail value slice (.ref p) (.ref s.heap.objs.size)) Q E { s with heap := s.heap.push { cls := .type "slice", data := .fields #[.none, .none, vk] } } :=
  krv_lit F N (News.isList N h) pk (by rfl) k hs ht (by rw [List.size_toArray]; exact hz)
theorem s72_fit {n : Nat} (h : n ≤ sizeLine) : (n : Int) < 2 ^ 63 := by
  rw [sizeLine_eq] at h
  omega
theorem s72_len (N : News g L s.heap news) (h : (p, listOf vs.toArray n) ∈ news) (hz : vs.length ≤ sizeLine) (k : ∀ tk, Q (.int vs.length tk) { s with toks := tk + 1 }) : wpAny (model prog w) A (call (.builtin "len") [.ref p]) Q E s := by
  have e : vs.toArray.size = vs.length := by simp
  refine len_list (News.isList N h) (by rw [e]; exact s72_fit hz) ?_
  rw [e]
  exact k _
theorem s72_lenG (F : Fr g L s.heap m) (h : g.get? p = some (listOf vs.toArray n)) (hz : vs.length ≤ sizeLine) (k : ∀ tk, Q (.int vs.length tk) { s with toks := tk + 1 }) : wpAny (model prog w) A (call (.builtin "len") [.ref p]) Q E s := by
  have e : vs.toArray.size = vs.length := by simp
  refine len_list (items := vs.toArray) ⟨_, F.keep _ _ h, rfl, _, rfl⟩ (by rw [e]; exact s72_fit hz) ?_
  rw [e]
  exact k _
theorem s72_lenT (F : Fr g L s.heap m) (h : g.get? p = some (tupOf vs.toArray n)) (hz : vs.length ≤ sizeLine) (k : ∀ tk, Q (.int vs.length tk) { s with toks := tk + 1 }) : wpAny (model prog w) A (call (.builtin "len") [.ref p]) Q E s := by
  have e : vs.toArray.size = vs.length := by simp
  refine len_tuple (items := vs.toArray) ⟨_, F.keep _ _ h, rfl, _, rfl⟩ (by rw [e]; exact s72_fit hz) ?_
  rw [e]
  exact k _
theorem s72_pop {v : Value} (F : Fr g L s.heap m) (N : News g L s.heap news) (U : Upd D (listOf (vs ++ [v]).toArray n) (listOf vs.toArray (n + 1)) news news') (hz : (vs ++ [v]).length ≤ sizeLine)
    (k : ∀ h', Fr g L h' m → News g L h' news' → Q v { s with heap := h' }) : wpAny (model prog w) A (call (.builtin "list.pop") [.ref D]) Q E s :=
  kl_pop F N (p := vs) (y := v) (by simpa using kpa_last v vs) U (by simpa using hz) k
theorem s72_append {v : Value} (F : Fr g L s.heap m) (N : News g L s.heap news) (U : Upd D (listOf vs.toArray n) (listOf (vs ++ [v]).toArray (n + 1)) news news') (hz : vs.length ≤ sizeLine)
    (k : ∀ h', Fr g L h' m → News g L h' news' → Q .none { s with heap := h' }) : wpAny (model prog w) A (call (.builtin "list.append") [.ref D, v]) Q E s := by
  refine append_K (its := vs.toArray) (n := n) F N ?_ k (by rw [List.size_toArray]; exact hz)
  have e : vs.toArray.push v = (vs ++ [v]).toArray := by simp
  rw [e]
  exact U
theorem s72_extend {G : Obj → List (Addr × Obj)} (F : Fr g L s.heap m) (N : News g L s.heap news) (h : (b, listOf zs.toArray n2) ∈ news) (U : UpdF D (listOf ys.toArray n) news G) (hz : ys.length + zs.length ≤ sizeLine)
    (k : ∀ h' n', Fr g L h' m → News g L h' (G (listOf (ys ++ zs).toArray n')) → Q .none { s with heap := h' }) : wpAny (model prog w) A (call (.builtin "list.extend") [.ref D, .ref b]) Q E s := by
  obtain ⟨pre, post, rfl, hG, a, c⟩ := U.split
  refine extend_in (its2 := zs.toArray) (n2 := n2) F N a c (N _ h).1 (fun h' n' F' N' => k h' n' F' ?_) (by rw [List.size_toArray]; exact hz)
  rw [hG]
  exact N'
end

/-- the nodes of a part, those within nodes left out -/
def nodesF : Nat := 0
mutual
def Tr.nodes : Tr → List Tr
  | .node k ts => [.node k ts]
  | .list ts => nodesL ts
  | .tuple ts => nodesL ts
  | _ => []
def nodesL : List Tr → List Tr
  | [] => []
  | t :: ts => t.nodes ++ nodesL ts
end
mutual
def Tr.size : Tr → Nat
  | .node _ ts => 1 + sizeL ts
  | .list ts => 1 + sizeL ts
  | .tuple ts => 1 + sizeL ts
  | _ => 1
def sizeL : List Tr → Nat
  | [] => 0
  | t :: ts => t.size + sizeL ts
end
theorem Tr.size_pos (t : Tr) : 0 < t.size := by
  cases t <;> simp only [Tr.size] <;> omega
theorem len_sizeL : ∀ ts : List Tr, ts.length ≤ sizeL ts
  | [] => Nat.le_refl _
  | t :: ts => by
    have := len_sizeL ts
    have := t.size_pos
    simp only [List.length_cons, sizeL]
    omega
theorem RepL.length {w : World} {S : Addr → Obj → Prop} : ∀ {vs : List Value} {ts : List Tr}, RepL w S vs ts → vs.length = ts.length
  | _, _, .nil => rfl
  | _, _, .cons _ r => congrArg (· + 1) r.length
theorem repL_room {w : World} {S : Addr → Obj → Prop} {vs : List Value} {ts : List Tr} (h : RepL w S vs ts) (hz : sizeL ts ≤ 1000000) : vs.length ≤ sizeLine := by
  have := h.length
  have := len_sizeL ts
  rw [sizeLine_eq]
  omega
theorem RepL.append {w : World} {S : Addr → Obj → Prop} : ∀ {vs : List Value} {ts : List Tr} {us : List Value} {xs : List Tr}, RepL w S vs ts → RepL w S us xs → RepL w S (vs ++ us) (ts ++ xs)
  | _, _, _, _, .nil, r => r
  | _, _, _, _, .cons a q, r => .cons a (q.append r)
theorem RepL.reverse {w : World} {S : Addr → Obj → Prop} : ∀ {vs : List Value} {ts : List Tr}, RepL w S vs ts → RepL w S vs.reverse ts.reverse
  | _, _, .nil => .nil
  | _, _, .cons (vs := vs) (ts := ts) a q => by
    rw [List.reverse_cons, List.reverse_cons]
    exact q.reverse.append (.cons a .nil)
theorem repL_nil {w : World} {S : Addr → Obj → Prop} {vs : List Value} (h : RepL w S vs []) : vs = [] := by
  cases h; rfl
theorem repL_snoc {w : World} {S : Addr → Obj → Prop} : ∀ {vs : List Value} {ts : List Tr} {t : Tr}, RepL w S vs (ts ++ [t]) → ∃ us v, vs = us ++ [v] ∧ RepL w S us ts ∧ Rep w S v t
  | _, [], _, .cons a r => by
    cases repL_nil r
    exact ⟨[], _, rfl, .nil, a⟩
  | _, x :: ts, t, .cons a r => by
    obtain ⟨us, v, e, r1, r2⟩ := repL_snoc (ts := ts) (t := t) r
    exact ⟨_ :: us, v, by rw [e]; rfl, .cons a r1, r2⟩
theorem nodesL_append : ∀ ts xs : List Tr, nodesL (ts ++ xs) = nodesL ts ++ nodesL xs
  | [], _ => rfl
  | t :: ts, xs => by
    simp only [List.cons_append, nodesL]
    rw [nodesL_append ts xs, List.append_assoc]
theorem sizeL_append : ∀ ts xs : List Tr, sizeL (ts ++ xs) = sizeL ts + sizeL xs
  | [], _ => by simp only [List.nil_append, sizeL]; omega
  | t :: ts, xs => by
    simp only [List.cons_append, sizeL]
    rw [sizeL_append ts xs]
    omega
theorem sizeL_reverse : ∀ ts : List Tr, sizeL ts.reverse = sizeL ts
  | [] => rfl
  | t :: ts => by
    rw [List.reverse_cons, sizeL_append, sizeL_reverse ts]
    simp only [sizeL]
    omega
end S72

namespace S72
theorem fill_S72Kids (P : Params) : hd.heap_39 P = hd.heap_39 P ∧ Challenge.rw_sz0072_01 = Challenge.rw_sz0072_01 := by
  w_top off
  k_fill
  exact ⟨rfl, rfl⟩
local macro_rules | `(tactic| k_inst) => `(tactic| (refine' s72_inst ?F ?h1 ?h2; (case F => k_asm); (case h1 => assumption); (case h2 => assumption)))
local macro_rules | `(tactic| kit_at) => `(tactic| (refine' s72_at ?F ?h1 ?c; (case F => k_asm); (case h1 => assumption); (case c => exact rfl)))
local macro_rules | `(tactic| k_room) => `(tactic| ktr_room)
local macro_rules | `(tactic| walk_at "call builtin:isinstance") => `(tactic| (k_here; k_dflt (first
  | (refine' isi_Node ?R ?F ?X ?_; (case R => with_reducible assumption); (case F => k_asm); (case X => k_asm); k_whole)
  | (refine' isi_tuple ?R ?F ?X ?_; (case R => with_reducible assumption); (case F => k_asm); (case X => k_asm); k_whole)
  | (refine' isi_bool ?R ?F ?X ?_; (case R => with_reducible assumption); (case F => k_asm); (case X => k_asm); k_whole)
  | (refine' isi_seq ?R ?F ?N ?X ?m ?_; (case R => with_reducible assumption); (case F => k_asm); (case N => k_asm); (case X => k_asm); (case m => k_mem); k_whole)
  | (refine' isi_full ?R ?F ?N ?X ?m ?_; (case R => with_reducible assumption); (case F => k_asm); (case N => k_asm); (case X => k_asm); (case m => k_mem); k_whole)); intro tk'))
local macro_rules | `(tactic| walk_at "call type:list") => `(tactic| (k_here; (with_reducible show wpAny _ _ (call (Value.type _) [Value.ref _]) _ _ _); k_dflt (first
  | (refine' s72_listL ?F ?N ?h ?z ?_; (case F => k_asm); (case N => k_asm); (case h => assumption); (case z => assumption))
  | (refine' s72_listT ?F ?N ?h ?z ?_; (case F => k_asm); (case N => k_asm); (case h => assumption); (case z => assumption))); intro D' c' h' F' N' l1; (try k_lt l1); (try k_sweep)))
local macro_rules | `(tactic| walk_at "subscriptTail Name Slice ref ref") => `(tactic| (k_here; (with_reducible show wpAny _ _ (subscriptTail _ (PySem.Expr.Slice none none (some _) _) (Value.ref _) (Value.ref _)) _ _ _); k_dflt (refine' s72_rev ?F ?N ?m ?k ?z ?_ ?s ?t; (case F => k_asm); (case N => k_asm); (case m => k_mem); (case k => exact IsPart.int _ _); (case s => with_unfolding_all rfl); (case t => kmk_pure); (case z => assumption)); intro D' h' F' N' l1; (try k_lt l1); (try k_sweep)))
local macro_rules | `(tactic| walk_at "call builtin:len") => `(tactic| (k_here; (with_reducible show wpAny _ _ (call (Value.builtin "len") [Value.ref _]) _ _ _); k_dflt (first
  | (refine' s72_len ?N ?m ?z ?_; (case N => k_asm); (case m => k_mem); (case z => assumption))
  | (refine' s72_lenG ?F ?h ?z ?_; (case F => k_asm); (case h => assumption); (case z => assumption))
  | (refine' s72_lenT ?F ?h ?z ?_; (case F => k_asm); (case h => assumption); (case z => assumption))); intro tk'))
local macro_rules | `(tactic| walk_at "call builtin:list.pop") => `(tactic| (k_here; (with_reducible show wpAny _ _ (call (Value.builtin _) [Value.ref _]) _ _ _); k_dflt (refine' s72_pop ?F ?N ?U ?z ?_; (case F => k_asm); (case N => k_asm); (case U => k_upd); (case z => assumption)); intro h' F' N'; (try k_sweep)))
local macro_rules | `(tactic| walk_at "call builtin:list.append") => `(tactic| (k_here; (with_reducible show wpAny _ _ (call (Value.builtin _) [Value.ref _, _]) _ _ _); k_dflt (refine' s72_append ?F ?N ?U ?z ?_; (case F => k_asm); (case N => k_asm); (case U => k_upd); (case z => assumption)); intro h' F' N'; (try k_sweep)))
local macro_rules | `(tactic| walk_at "call builtin:list.extend") => `(tactic| (k_here; (with_reducible show wpAny _ _ (call (Value.builtin _) [Value.ref _, Value.ref _]) _ _ _); k_dflt (refine' s72_extend ?F ?N ?m ?U ?z ?_; (case F => k_asm); (case N => k_asm); (case m => k_mem); (case U => k_updF); (case z => assumption)); intro h' n' F' N'; (try dsimp only at N'); (try k_sweep)))
local macro_rules | `(tactic| k_steps) => `(tactic| repeat' (first
  | ((fail_if_success (with_reducible show wpAny _ _ (exec (Stmt.While _ _ _ _) _) _ _ _)); first | (k_unfold; (try dsimp only)) | (k_end; kc_close) | walk1 | (dsimp only; walk1) | (leave1; walk_say "STEP leave1"; (try dsimp only)))
  | fail "no step"))

theorem nodes_node {t : Tr} (h : t.isNode = true) : t.nodes = [t] := by
  cases t <;> first | rfl | cases h
theorem nodes_leaf {t : Tr} (h : t.isNode = false) (h' : t.isSeq = false) : t.nodes = [] := by
  cases t <;> first | rfl | (cases h'; done) | (cases h; done)
theorem nodes_snoc (ts : List Tr) (t : Tr) : nodesL (ts ++ [t]).reverse = t.nodes ++ nodesL ts.reverse := by
  rw [List.reverse_append]
  rfl
theorem sizeL_snoc (ts : List Tr) (t : Tr) : sizeL (ts ++ [t]) = sizeL ts + t.size := by
  rw [sizeL_append]
  simp only [sizeL, Nat.add_zero]
theorem part_twice {pv v : Option Value} {r : Str → Option Value} : (fun y => if y = Str.ofString "part" then v else if y = Str.ofString "part" then pv else r y) = fun y => if y = Str.ofString "part" then v else r y := by
  funext y
  by_cases h : y = Str.ofString "part"
  · simp only [if_pos h]
  · simp only [if_neg h]

section
variable {w : World} {mean : ExcName → Option Value} {mg mb : Str → Option Value}
set_option maxHeartbeats 8000000 in
theorem kids_does {S : Addr → Obj → Prop} (v : Value) (k : Str) (ts : List Tr) : Does w mean mg mb 9 60 42 [v] (fun h => Rep w S v (.node k ts) ∧ (∀ a o, S a o → h.get? a = some o) ∧ sizeL ts ≤ 1000000)
    (fun g h' r => ∃ a vs n, r = .ref a ∧ h'.get? a = some (listOf vs.toArray n) ∧ g.get? a = none ∧ RepL w S vs (nodesL ts)) := by
  refine does_of (binds := [(Str.ofString "node", v)]) (by k_is) (by k_is) (by decide) (fun s => BindsTo.of_eq rfl) (locs rfl) ?_ rfl rfl rfl (by decide)
  intro dp un gd outer A₀ base g L h₁ s Q B F X T hd hu hpre hL hret
  have N : News g L h₁ [] := News.nil
  obtain ⟨R, hSS, hz⟩ := hpre
  cases R with
  | @node an dx pn vs nn cn _ _ tk t₁ t₂ t₃ t₄ ln h1 h2 h3 hr =>
  have hl := repL_room hr hz
  replace h1 := hSS _ _ h1
  replace h2 := hSS _ _ h2
  replace h3 := hSS _ _ h3
  k_steps
  rename_i af _ _ D2 _ _ _ aw _ hlt D0 _ _ _ _ h' F' N'
  have N0 : News g L h' [(aw, listOf (List.toArray _) 0), (af, listOf #[] 0)] := fun p hp => N' p (by
    rcases List.mem_cons.mp hp with rfl | hp
    · exact .tail _ (.head _)
    · rcases List.mem_cons.mp hp with rfl | hp
      · exact .tail _ (.tail _ (.tail _ (.head _)))
      · exact nomatch hp)
  clear N'
  have hne : @LT.lt Nat _ af aw := hlt.2
  refine While_inv2 (J := fun n m₁ news₁ => ∃ (pv : Option Value) (ws fs : List Value) (c1 c2 : Nat) (tws tfs : List Tr),
    m₁ = (fun y => if y = Str.ofString "part" then pv else if y = Str.ofString "found" then some (.ref af) else if y = Str.ofString "waiting" then some (.ref aw) else List.lookup y [(Str.ofString "node", Value.ref an)].reverse) ∧
    news₁ = [(aw, listOf ws.toArray c1), (af, listOf fs.toArray c2)] ∧ RepL w S ws tws ∧ RepL w S fs tfs ∧ tfs ++ nodesL tws.reverse = nodesL ts ∧ sizeL tws = n ∧ tfs.length + sizeL tws ≤ 1000000) (n₀ := sizeL ts) F' N0 ?_ ?_ PassesOwn.never
  · refine ⟨none, _, [], 0, 0, ts.reverse, [], ?_, rfl, hr.reverse, .nil, ?_, sizeL_reverse ts, ?_⟩
    · funext y
      by_cases hy : y = Str.ofString "part"
      · subst hy; rfl
      · rw [if_neg hy]
    · rw [List.reverse_reverse, List.nil_append]
    · rw [sizeL_reverse]; simpa using hz
  · rintro n m₁ news₁ h₂ tk₁ F₂ N₂ ⟨pv, ws, fs, c1, c2, tws, tfs, rfl, rfl, rw', rf', htar, hsz, hbd⟩
    clear F' N0 hr h3 hl
    rcases List.eq_nil_or_concat tws with rfl | ⟨tws, t, rfl⟩
    · cases repL_nil rw'
      have hl0 : ([] : List Value).length ≤ sizeLine := Nat.zero_le _
      k_steps
      have e0 : tfs = nodesL ts := by simpa [nodesL] using htar
      subst e0
      exact hret _ _ _ (Fr.keep F₂) ⟨af, fs, c2, rfl, (N₂ _ (.tail _ (.head _))).1, (N₂ _ (.tail _ (.head _))).2.2, rf'⟩
    · rw [List.concat_eq_append] at *
      obtain ⟨ws, v, rfl, rwN, rv⟩ := repL_snoc rw'
      clear rw'
      have hl0 : (ws ++ [v]).length ≤ sizeLine := by
        rw [sizeLine_eq]
        have := rwN.length
        have := len_sizeL (tws ++ [t])
        simp only [List.length_append, List.length_singleton] at *
        omega
      have hl1 : fs.length ≤ sizeLine := by
        rw [sizeLine_eq]
        have := rf'.length
        omega
      have rvg : Rep w (SH g) v t := rv.mono hSS
      have hpos : ((ws ++ [v]).length : Int) > 0 := by simp only [List.length_append, List.length_singleton]; omega
      rw [nodes_snoc] at htar
      rw [sizeL_snoc] at hsz hbd
      have hp := t.size_pos
      k_steps
      · rename_i hN _ F' N'
        refine ⟨_, _, _, _, sizeL tws, rfl, F', N', by omega, some v, ws, fs ++ [v], _, _, tws, tfs ++ [t], part_twice, rfl, rwN, rf'.append (.cons rv .nil), ?_, rfl, ?_⟩
        · rw [← htar, nodes_node hN, List.append_assoc]
        · simp only [List.length_append, List.length_singleton]; omega
      · rename_i hN _ _ F' N' _ _ hS
        cases rv
        case list hx hrv =>
          rename_i as ys _ us
          replace hx := hSS _ _ hx
          have hyl := hrv.length
          have hys := len_sizeL us
          have hsu : Tr.size (.list us) = 1 + sizeL us := rfl
          have hwl := rwN.length
          have hwz := len_sizeL tws
          have hl2 : ys.length ≤ sizeLine := by rw [sizeLine_eq]; omega
          have hl3 : ws.length + ys.reverse.length ≤ sizeLine := by rw [sizeLine_eq, List.length_reverse]; omega
          k_steps
          rename_i F' N'
          refine ⟨_, _, _, _, sizeL (tws ++ us.reverse), rfl, F', fun p hp => N' p (.tail _ (.tail _ (.tail _ hp))), ?_, some _, ws ++ ys.reverse, fs, _, _, tws ++ us.reverse, tfs, part_twice, rfl, rwN.append hrv.reverse, rf', ?_, rfl, ?_⟩
          · rw [sizeL_append, sizeL_reverse]; omega
          · rw [← htar, List.reverse_append, List.reverse_reverse, nodesL_append]
            rfl
          · rw [sizeL_append, sizeL_reverse]; omega
        case tuple hx hrv =>
          rename_i as ys _ us
          replace hx := hSS _ _ hx
          have hyl := hrv.length
          have hys := len_sizeL us
          have hsu : Tr.size (.tuple us) = 1 + sizeL us := rfl
          have hwl := rwN.length
          have hwz := len_sizeL tws
          have hl2 : ys.length ≤ sizeLine := by rw [sizeLine_eq]; omega
          have hl3 : ws.length + ys.reverse.length ≤ sizeLine := by rw [sizeLine_eq, List.length_reverse]; omega
          k_steps
          rename_i F' N'
          refine ⟨_, _, _, _, sizeL (tws ++ us.reverse), rfl, F', fun p hp => N' p (.tail _ (.tail _ (.tail _ hp))), ?_, some _, ws ++ ys.reverse, fs, _, _, tws ++ us.reverse, tfs, part_twice, rfl, rwN.append hrv.reverse, rf', ?_, rfl, ?_⟩
          · rw [sizeL_append, sizeL_reverse]; omega
          · rw [← htar, List.reverse_append, List.reverse_reverse, nodesL_append]
            rfl
          · rw [sizeL_append, sizeL_reverse]; omega
        all_goals exact (Bool.false_ne_true (show false = true from hS)).elim
      · rename_i hN _ _ F' N' _ _ hS
        refine ⟨_, _, _, _, sizeL tws, rfl, F', fun p hp => N' p (.tail _ hp), by omega, some v, ws, fs, _, _, tws, tfs, part_twice, rfl, rwN, rf', ?_, rfl, by omega⟩
        rw [← htar, nodes_leaf hN hS, List.nil_append]
end

end S72

namespace S72
theorem fill_S72Zip (P : Params) : hd.heap_39 P = hd.heap_39 P ∧ Challenge.rw_sz0072_01 = Challenge.rw_sz0072_01 := by
  w_top off
  k_fill
  exact ⟨rfl, rfl⟩
section
variable {prog : Program} {w : World} {A : Around} {E : Value → Shared → Prop} {s : Shared}

/-- a list or a tuple; its iterator -/
def Src (tup : Bool) (h : Heap) (l : Addr) (xs : Array Value) : Prop := match tup with | true => h.IsTuple l xs | false => h.IsList l xs
def Itr (tup : Bool) (h : Heap) (i l : Addr) (k : Nat) : Prop := match tup with | true => h.IsTupleIter i l k | false => h.IsListIter i l k
theorem Src.at {tup : Bool} {h h' : Heap} {l : Addr} {xs : Array Value} (x : Src tup h l xs) (e : ∀ o, h.get? l = some o → h'.get? l = some o) : Src tup h' l xs := by
  cases tup <;> (obtain ⟨o, ho, r⟩ := x; exact ⟨o, e o ho, r⟩)
theorem Itr.at {tup : Bool} {h h' : Heap} {i l : Addr} {k : Nat} (x : Itr tup h i l k) (e : ∀ o, h.get? i = some o → h'.get? i = some o) : Itr tup h' i l k := by
  cases tup <;> (obtain ⟨o, ho, r⟩ := x; exact ⟨o, e o ho, r⟩)
theorem Itr.ref {tup : Bool} {h : Heap} {i l : Addr} {k : Nat} (x : Itr tup h i l k) : ∃ o, h.get? i = some o := by
  cases tup <;> (obtain ⟨o, ho, _⟩ := x; exact ⟨o, ho⟩)

theorem tupNext_item {it t : Addr} {k : Nat} {items : Array Value} {x : Value} {Q : Value → Shared → Prop} (hit : s.heap.IsTupleIter it t k) (ht : s.heap.IsTuple t items) (hx : items[k]? = some x)
    (hQ : ∀ h', h'.IsTupleIter it t (k + 1) → Heap.SameBut it s.heap h' → Q x { s with heap := h' }) : wpAny (model prog w) A (Builtin.SmallTypes.nextOf (.ref it)) Q E s := by
  obtain ⟨o, ho, hc, hd⟩ := id hit
  obtain ⟨ot, hot, _, nt, hdt⟩ := ht
  unfold Builtin.SmallTypes.nextOf
  refine wpAny_bind (wpAny_callSpecial?_slot (name := Str.ofString "__next__") hit.typeIs F.slot_tuple_iterator_next
    (wpAny_call_entry F.slot_tuple_iterator_next hit.typeIs F.entry_tuple_iterator_next ?_ (F.args_tuple_iterator_next_1 _)))
  refine wpAny_bind (m := field (.ref it) 0) (wpAny_field ho hd (x := .ref t) rfl ?_)
  refine wpAny_ite_false rfl ?_
  refine wpAny_bind (m := field (.ref it) 1) (wpAny_field ho hd (x := .int k 0) rfl ?_)
  refine wpAny_bind (m := seqItems? (.ref t)) (wpAny_seqItems hot hdt ?_)
  simp only [Int.toNat_natCast, hx]
  refine wpAny_bind (wpAny_setField ho hd (by simp) (wpAny_pure ⟨x, rfl, wpAny_pure (hQ _ ?_ (Heap.SameBut.update ..))⟩))
  exact ⟨_, Heap.get?_update_self _ ho (Obj.isFreed_of_fields (Obj.data_mapFields hd _)), (Obj.cls_mapFields ..).trans hc, by rw [Obj.data_mapFields hd]; simp [rawInt]⟩

theorem tupNext_end {it t : Addr} {k : Nat} {items : Array Value} {Q : Value → Shared → Prop} (hh : A.handled = none) (hit : s.heap.IsTupleIter it t k) (ht : s.heap.IsTuple t items) (hx : items[k]? = none)
    (hE : ∀ h' e, Heap.ExtBut it s.heap h' → (∃ o, h'.get? e = some o ∧ o.cls = .type "StopIteration") → E (.ref e) { s with heap := h' }) : wpAny (model prog w) A (Builtin.SmallTypes.nextOf (.ref it)) Q E s := by
  obtain ⟨o, ho, hc, hd⟩ := id hit
  obtain ⟨ot, hot, _, nt, hdt⟩ := ht
  unfold Builtin.SmallTypes.nextOf
  refine wpAny_bind (wpAny_callSpecial?_slot (name := Str.ofString "__next__") hit.typeIs F.slot_tuple_iterator_next
    (wpAny_call_entry F.slot_tuple_iterator_next hit.typeIs F.entry_tuple_iterator_next ?_ (F.args_tuple_iterator_next_1 _)))
  refine wpAny_bind (m := field (.ref it) 0) (wpAny_field ho hd (x := .ref t) rfl ?_)
  refine wpAny_ite_false rfl ?_
  refine wpAny_bind (m := field (.ref it) 1) (wpAny_field ho hd (x := .int k 0) rfl ?_)
  refine wpAny_bind (m := seqItems? (.ref t)) (wpAny_seqItems hot hdt ?_)
  simp only [Int.toNat_natCast, hx]
  refine wpAny_bind (wpAny_rule (wpAny_bind (wpAny_setField ho hd (by simp) ?_)))
  refine wpAny_bind (m := newExc (.type "StopIteration") []) ?_
  simp only [newExc, newTuple]
  refine wpAny_bind (wpAny_newObj_type ?_ (by size_fits))
  refine wpAny_bind (m := firstArgMember _ _) (wpAny_of_eq (a := Value.none) (by first | rfl | (simp only [firstArgMember]; rfl)) ?_)
  refine wpAny_newObj_type ?_ (by size_fits)
  simp only [raiseNew]
  refine wpAny_bind (wpAny_handled ?_)
  rw [show A.in1.handled = none from hh]
  exact wpAny_bind (wpAny_pure (wpAny_throw (hE _ _ (((Heap.SameBut.update ..).extBut.push _).push _) ⟨_, Heap.get?_push_size _ rfl, rfl⟩)))

theorem next_item {tup : Bool} {it l : Addr} {k : Nat} {xs : Array Value} {x : Value} {Q : Value → Shared → Prop} (hit : Itr tup s.heap it l k) (hl : Src tup s.heap l xs) (hx : xs[k]? = some x)
    (hQ : ∀ h', Itr tup h' it l (k + 1) → Heap.SameBut it s.heap h' → Q x { s with heap := h' }) : wpAny (model prog w) A (Builtin.SmallTypes.nextOf (.ref it)) Q E s := by
  cases tup
  · exact wpAny_nextOf_list_item hit hl hx hQ
  · exact tupNext_item hit hl hx hQ
theorem next_end {tup : Bool} {it l : Addr} {k : Nat} {xs : Array Value} {Q : Value → Shared → Prop} (hh : A.handled = none) (hit : Itr tup s.heap it l k) (hl : Src tup s.heap l xs) (hx : xs[k]? = none)
    (hE : ∀ h' e, Heap.ExtBut it s.heap h' → (∃ o, h'.get? e = some o ∧ o.cls = .type "StopIteration") → E (.ref e) { s with heap := h' }) : wpAny (model prog w) A (Builtin.SmallTypes.nextOf (.ref it)) Q E s := by
  cases tup
  · exact wpAny_nextOf_list_end hh hit hl hx hE
  · exact tupNext_end hh hit hl hx hE
end

/-- a zip's object in any state of its turns -/
abbrev zipObj (f0 : Value) (f1 : Bool) (TI TO : Addr) : Obj := { cls := .type "zip", dict := none, data := .fields #[f0, .bool f1, .bool false, .ref TI, .ref TO], slots := #[] }

section
variable {prog : Program} {w : World} {A : Around} {E : Value → Shared → Prop} {s : Shared}
theorem alive_ {M : Model} {a : Addr} {Q : Option Obj → Shared → Prop} (h : Q (s.heap.get? a) s) : wpAny M A (loadIfAlive a) Q E s := fun _ _ _ => h
/-- the places that a zip turns lie apart from each other and from what it reads -/
structure Apart (z TI i1 i2 l1 l2 : Addr) : Prop where
  ti : TI ≠ z ∧ TI ≠ i1 ∧ TI ≠ i2
  z1 : i1 ≠ z
  z2 : i2 ≠ z
  ii : i1 ≠ i2
  l1 : l1 ≠ z ∧ l1 ≠ i1 ∧ l1 ≠ i2
  l2 : l2 ≠ z ∧ l2 ≠ i1 ∧ l2 ≠ i2
theorem notFree {z TI TO Tp : Addr} {f1 : Bool} {ot : Obj} {Q : Bool → Shared → Prop} (hz : s.heap.get? z = some (zipObj (rawInt Tp) f1 TI TO)) (hp : s.heap.get? Tp = some ot)
    (hQ : ∀ h f1', h.get? z = some (zipObj (rawInt Tp) f1' TI TO) → Heap.SameBut z s.heap h → Q false { s with heap := h }) : wpAny (model prog w) A (Builtin.SmallTypes.ownedTupleIsFree (.ref z)) Q E s := by
  unfold Builtin.SmallTypes.ownedTupleIsFree
  refine wpAny_bind (wpAny_field hz rfl (x := rawInt Tp) rfl ?_)
  refine wpAny_bind (m := loadIfAlive _) (alive_ ?_)
  have e0 : (Int.toNat (Tp : Int)) = Tp := Int.toNat_natCast Tp
  rw [e0, hp]
  refine wpAny_ite_false rfl ?_
  refine wpAny_bind (wpAny_field hz rfl (x := .bool f1) rfl ?_)
  cases f1
  · refine wpAny_ite_true rfl ?_
    refine wpAny_bind (wpAny_setField_rec hz (by simp) fun h₁ hz₁ hs₁ => ?_)
    exact wpAny_pure (hQ h₁ true hz₁ hs₁)
  · refine wpAny_ite_false rfl ?_
    exact wpAny_pure (hQ s.heap true hz (Heap.SameBut.refl ..))
/-- the turn of a zip whose first tuple is still held -/
theorem zip_held {tup : Bool} {z TI TO i1 i2 l1 l2 Tp : Addr} {f1 : Bool} {k : Nat} {xs ys : Array Value} {x y : Value} {ot : Obj} {Q : Value → Shared → Prop} (D : Apart z TI i1 i2 l1 l2)
    (hz : s.heap.get? z = some (zipObj (rawInt Tp) f1 TI TO)) (hp : s.heap.get? Tp = some ot) (hTI : IsPair s.heap TI (.ref i1) (.ref i2))
    (h1 : Itr tup s.heap i1 l1 k) (h2 : Itr tup s.heap i2 l2 k) (hl1 : Src tup s.heap l1 xs) (hl2 : Src tup s.heap l2 ys) (hx : xs[k]? = some x) (hy : ys[k]? = some y)
    (hQ : ∀ h' : Heap, (∃ f1', h'.get? z = some (zipObj (rawInt Tp) f1' TI TO)) → Itr tup h' i1 l1 (k + 1) → Itr tup h' i2 l2 (k + 1) → IsPair h' s.heap.objs.size x y →
      (∀ c o, c ≠ z → c ≠ i1 → c ≠ i2 → s.heap.get? c = some o → h'.get? c = some o) → Q (.ref s.heap.objs.size) { s with heap := h' }) :
    wpAny (model prog w) A (Builtin.«zip.__next__» ⟨[.ref z], []⟩) (fun fin s' => ∃ v, fin = .done (.ret v) ∧ Q v s') E s := by
  refine wpAny_bind (m := field (.ref z) 2) (wpAny_field hz rfl (x := .bool false) rfl ?_)
  refine wpAny_bind (m := field (.ref z) 3) (wpAny_field hz rfl (x := .ref TI) rfl ?_)
  refine wpAny_bind (wpAny_seqItems hTI rfl ?_)
  refine wpAny_bind (m := Builtin.SmallTypes.ownedTupleIsFree (.ref z)) (notFree hz hp fun h₁ f1' hz₁ hs₁ => ?_)
  refine wpAny_ite_false rfl ?_
  refine wpAny_bind (wpAny_arrayLoop ?_)
  simp only [List.forIn_cons, List.forIn_nil]
  have a1 : Itr tup h₁ i1 l1 k := h1.at fun o e => hs₁.extBut _ _ D.z1 e
  have a2 : Itr tup h₁ i2 l2 k := h2.at fun o e => hs₁.extBut _ _ D.z2 e
  have b1 : Src tup h₁ l1 xs := hl1.at fun o e => hs₁.extBut _ _ D.l1.1 e
  have b2 : Src tup h₁ l2 ys := hl2.at fun o e => hs₁.extBut _ _ D.l2.1 e
  refine wpAny_bind (wpAny_bind (wpAny_holding ?_))
  refine wpAny_ite_false rfl ?_
  refine wpAny_bind (next_item a1 b1 hx fun h₂ c1 hs₂ => wpAny_pure ?_)
  refine wpAny_pure ?_
  have d2 : Itr tup h₂ i2 l2 k := a2.at fun o e => hs₂.extBut _ _ D.ii.symm e
  have e2 : Src tup h₂ l2 ys := b2.at fun o e => hs₂.extBut _ _ D.l2.2.1 e
  refine wpAny_bind (wpAny_bind (wpAny_holding ?_))
  refine wpAny_ite_false rfl ?_
  refine wpAny_bind (next_item d2 e2 hy fun h₃ c2 hs₃ => wpAny_pure ?_)
  refine wpAny_pure ?_
  refine wpAny_pure ?_
  refine wpAny_bind (wpAny_newTuple ?_ (by rw [sizeLine_eq]; exact Nat.le_of_ble_eq_true rfl))
  refine wpAny_pure ⟨_, rfl, ?_⟩
  have hsz : h₃.objs.size = s.heap.objs.size := by rw [hs₃.1, hs₂.1, hs₁.1]
  have keep : ∀ c o, c ≠ z → c ≠ i1 → c ≠ i2 → s.heap.get? c = some o → h₃.get? c = some o := fun c o q1 q2 q3 e => hs₃.extBut _ _ q3 (hs₂.extBut _ _ q2 (hs₁.extBut _ _ q1 e))
  have f1 : Itr tup h₃ i1 l1 (k + 1) := c1.at fun o e => hs₃.extBut _ _ D.ii e
  show Q (.ref h₃.objs.size) _
  rw [hsz]
  refine hQ _ ⟨f1', ?_⟩ (f1.at fun o e => Heap.get?_push_of_some _ e) (c2.at fun o e => Heap.get?_push_of_some _ e) ?_ fun c o q1 q2 q3 e => Heap.get?_push_of_some _ (keep c o q1 q2 q3 e)
  · exact Heap.get?_push_of_some _ (hs₃.extBut _ _ D.z2.symm (hs₂.extBut _ _ D.z1.symm hz₁))
  · have e9 : (h₃.push { cls := .type "tuple", data := .seq #[x, y] }).get? h₃.objs.size = some { cls := .type "tuple", data := .seq #[x, y] } := Heap.get?_push_size _ rfl
    rw [hsz] at e9
    exact e9

/-- the first turn of a zip -/
theorem zip_first {tup : Bool} {z TI TO i1 i2 l1 l2 : Addr} {a b : Value} {xs ys : Array Value} {k : Nat} {x y : Value} {Q : Value → Shared → Prop} (D : Apart z TI i1 i2 l1 l2) (DO : TO ≠ z ∧ TO ≠ i1 ∧ TO ≠ i2 ∧ TO ≠ TI ∧ l1 ≠ TO ∧ l2 ≠ TO)
    (hz : s.heap.get? z = some (zipObj .none false TI TO)) (hTI : IsPair s.heap TI (.ref i1) (.ref i2)) (hTO : IsPair s.heap TO a b)
    (h1 : Itr tup s.heap i1 l1 k) (h2 : Itr tup s.heap i2 l2 k) (hl1 : Src tup s.heap l1 xs) (hl2 : Src tup s.heap l2 ys) (hx : xs[k]? = some x) (hy : ys[k]? = some y)
    (hQ : ∀ h' : Heap, h'.get? z = some (zipObj (rawInt s.heap.objs.size) false TI TO) → Itr tup h' i1 l1 (k + 1) → Itr tup h' i2 l2 (k + 1) → IsPair h' s.heap.objs.size x y → IsPair h' TO x y →
      (∀ c o, c ≠ z → c ≠ TO → c ≠ i1 → c ≠ i2 → s.heap.get? c = some o → h'.get? c = some o) → Q (.ref s.heap.objs.size) { s with heap := h' }) :
    wpAny (model prog w) A (Builtin.«zip.__next__» ⟨[.ref z], []⟩) (fun fin s' => ∃ v, fin = .done (.ret v) ∧ Q v s') E s := by
  refine wpAny_bind (m := field (.ref z) 2) (wpAny_field hz rfl (x := .bool false) rfl ?_)
  refine wpAny_bind (m := field (.ref z) 3) (wpAny_field hz rfl (x := .ref TI) rfl ?_)
  refine wpAny_bind (wpAny_seqItems hTI rfl ?_)
  refine wpAny_bind (m := Builtin.SmallTypes.ownedTupleIsFree (.ref z)) ?_
  unfold Builtin.SmallTypes.ownedTupleIsFree
  refine wpAny_bind (wpAny_field hz rfl (x := .none) rfl (wpAny_pure ?_))
  refine wpAny_ite_true rfl ?_
  refine wpAny_bind (wpAny_rule ?_)
  refine wpAny_bind (wpAny_field hz rfl (x := .ref TO) rfl ?_)
  refine wpAny_bind (wpAny_setField_rec hz (by simp) fun h₁ hz₁ hs₁ => ?_)
  have a1 : Itr tup h₁ i1 l1 k := h1.at fun o e => hs₁.extBut _ _ D.z1 e
  have a2 : Itr tup h₁ i2 l2 k := h2.at fun o e => hs₁.extBut _ _ D.z2 e
  have b1 : Src tup h₁ l1 xs := hl1.at fun o e => hs₁.extBut _ _ D.l1.1 e
  have b2 : Src tup h₁ l2 ys := hl2.at fun o e => hs₁.extBut _ _ D.l2.1 e
  have t1 : IsPair h₁ TO a b := hs₁.extBut _ _ DO.1 hTO
  refine wpAny_bind ?_
  simp only [List.zipIdx_cons, List.zipIdx_nil, List.forIn_cons, List.forIn_nil]
  refine wpAny_bind (wpAny_bind (wpAny_onRaise ?_))
  refine wpAny_ite_false rfl ?_
  refine wpAny_bind (next_item a1 b1 hx fun h₂ c1 hs₂ => wpAny_pure ?_)
  have d2 : Itr tup h₂ i2 l2 k := a2.at fun o e => hs₂.extBut _ _ D.ii.symm e
  have e2 : Src tup h₂ l2 ys := b2.at fun o e => hs₂.extBut _ _ D.l2.2.1 e
  have t2 : IsPair h₂ TO a b := hs₂.extBut _ _ DO.2.1 t1
  refine wpAny_bind (wpAny_seqItems t2 rfl ?_)
  refine wpAny_bind (wpAny_updateSeq_pair t2 fun h₃ t3 hs₃ => ?_)
  replace t3 : IsPair h₃ TO x b := t3
  have d3 : Itr tup h₃ i2 l2 k := d2.at fun o e => hs₃.extBut _ _ DO.2.2.1.symm e
  have e3 : Src tup h₃ l2 ys := e2.at fun o e => hs₃.extBut _ _ DO.2.2.2.2.2 e
  refine wpAny_bind (wpAny_letGo (wpAny_pure ?_))
  refine wpAny_bind (wpAny_bind (wpAny_onRaise ?_))
  refine wpAny_ite_false rfl ?_
  refine wpAny_bind (next_item d3 e3 hy fun h₄ c2 hs₄ => wpAny_pure ?_)
  have t4 : IsPair h₄ TO x b := hs₄.extBut _ _ DO.2.2.1 t3
  refine wpAny_bind (wpAny_seqItems t4 rfl ?_)
  refine wpAny_bind (wpAny_updateSeq_pair t4 fun h₅ t5 hs₅ => ?_)
  replace t5 : IsPair h₅ TO x y := t5
  refine wpAny_bind (wpAny_letGo (wpAny_pure (wpAny_pure ?_)))
  refine wpAny_bind (wpAny_seqItems t5 rfl ?_)
  refine wpAny_bind (wpAny_newTuple ?_)
  have hsz : h₅.objs.size = s.heap.objs.size := by rw [hs₅.1, hs₄.1, hs₃.1, hs₂.1, hs₁.1]
  have keep : ∀ c o, c ≠ z → c ≠ TO → c ≠ i1 → c ≠ i2 → s.heap.get? c = some o → h₅.get? c = some o := fun c o q0 q1 q2 q3 e =>
    hs₅.extBut _ _ q1 (hs₄.extBut _ _ q3 (hs₃.extBut _ _ q1 (hs₂.extBut _ _ q2 (hs₁.extBut _ _ q0 e))))
  have zz : h₅.get? z = some (zipObj .ellipsis false TI TO) := hs₅.extBut _ _ DO.1.symm (hs₄.extBut _ _ D.z2.symm (hs₃.extBut _ _ DO.1.symm (hs₂.extBut _ _ D.z1.symm hz₁)))
  have f1 : Itr tup h₅ i1 l1 (k + 1) := c1.at fun o e => hs₅.extBut _ _ DO.2.1.symm (hs₄.extBut _ _ D.ii (hs₃.extBut _ _ DO.2.1.symm e))
  have f2 : Itr tup h₅ i2 l2 (k + 1) := c2.at fun o e => hs₅.extBut _ _ DO.2.2.1.symm e
  have zlt : z < h₅.objs.size := Heap.lt_size zz
  refine wpAny_bind (m := Builtin.SmallTypes.ownedTupleHandOut (.ref z) (.ref h₅.objs.size)) ?_
  unfold Builtin.SmallTypes.ownedTupleHandOut
  have z6 : (h₅.push { cls := .type "tuple", data := .seq #[x, y] }).get? z = some (zipObj .ellipsis false TI TO) := Heap.get?_push_of_some _ zz
  refine wpAny_bind (wpAny_setField_rec z6 (by simp) fun h₇ z7 hs₇ => ?_)
  replace z7 : h₇.get? z = some (zipObj (rawInt h₅.objs.size) false TI TO) := z7
  refine wpAny_setField_rec z7 (by simp) fun h₈ z8 hs₈ => ?_
  replace z8 : h₈.get? z = some (zipObj (rawInt h₅.objs.size) false TI TO) := z8
  have up : ∀ c o, c ≠ z → h₅.get? c = some o → h₈.get? c = some o := fun c o q e => hs₈.extBut _ _ q (hs₇.extBut _ _ q (Heap.get?_push_of_some _ e))
  have t8 : IsPair h₈ h₅.objs.size x y := hs₈.extBut _ _ (Nat.ne_of_gt zlt) (hs₇.extBut _ _ (Nat.ne_of_gt zlt) (Heap.get?_push_size _ rfl))
  rw [hsz] at z8 t8
  refine wpAny_pure ⟨_, rfl, ?_⟩
  show Q (.ref h₅.objs.size) _
  rw [hsz]
  exact hQ h₈ z8 (f1.at fun o e => up _ o D.z1 e) (f2.at fun o e => up _ o D.z2 e) t8 (up _ _ DO.1 t5) fun c o q0 q1 q2 q3 e => up c o q0 (keep c o q0 q1 q2 q3 e)

/-- a zip whose first source has come to its end -/
theorem zip_end {tup : Bool} {z TI TO i1 i2 l1 l2 : Addr} {f0 : Value} {f1 : Bool} {k : Nat} {xs : Array Value} {Q : PySem.Fin → Shared → Prop} (hh : A.handled = none) (D : Apart z TI i1 i2 l1 l2)
    (hz : s.heap.get? z = some (zipObj f0 f1 TI TO)) (hf : f0 = .none ∨ ∃ Tp ot, f0 = rawInt ((Tp : Nat) : Int) ∧ s.heap.get? Tp = some ot) (hTI : IsPair s.heap TI (.ref i1) (.ref i2))
    (h1 : Itr tup s.heap i1 l1 k) (hl1 : Src tup s.heap l1 xs) (hx : xs[k]? = none)
    (hE : ∀ h' e, (∀ c o, c ≠ z → c ≠ i1 → s.heap.get? c = some o → h'.get? c = some o) → (∃ o, h'.get? e = some o ∧ o.cls = .type "StopIteration") → E (.ref e) { s with heap := h' }) :
    wpAny (model prog w) A (Builtin.«zip.__next__» ⟨[.ref z], []⟩) Q E s := by
  refine wpAny_bind (m := field (.ref z) 2) (wpAny_field hz rfl (x := .bool false) rfl ?_)
  refine wpAny_bind (m := field (.ref z) 3) (wpAny_field hz rfl (x := .ref TI) rfl ?_)
  refine wpAny_bind (wpAny_seqItems hTI rfl ?_)
  refine wpAny_bind (m := Builtin.SmallTypes.ownedTupleIsFree (.ref z)) ?_
  rcases hf with rfl | ⟨Tp, ot, rfl, hp⟩
  · unfold Builtin.SmallTypes.ownedTupleIsFree
    refine wpAny_bind (wpAny_field hz rfl (x := .none) rfl (wpAny_pure ?_))
    refine wpAny_ite_true rfl ?_
    refine wpAny_bind (wpAny_rule ?_)
    refine wpAny_bind (wpAny_field hz rfl (x := .ref TO) rfl ?_)
    refine wpAny_bind (wpAny_setField_rec hz (by simp) fun h₁ hz₁ hs₁ => ?_)
    have a1 : Itr tup h₁ i1 l1 k := h1.at fun o e => hs₁.extBut _ _ D.z1 e
    have b1 : Src tup h₁ l1 xs := hl1.at fun o e => hs₁.extBut _ _ D.l1.1 e
    refine wpAny_bind ?_
    simp only [List.zipIdx_cons, List.zipIdx_nil, List.forIn_cons, List.forIn_nil]
    refine wpAny_bind (wpAny_bind (wpAny_onRaise ?_))
    refine wpAny_ite_false rfl ?_
    refine wpAny_bind (next_end hh a1 b1 hx fun h₂ e hs₂ he => ?_)
    obtain ⟨oe, hoe, hce⟩ := he
    have hz₂ : h₂.get? z = some (zipObj .ellipsis f1 TI TO) := hs₂ _ _ D.z1.symm hz₁
    have hez : e ≠ z := fun q => by subst q; rw [hz₂] at hoe; cases hoe; simp at hce
    refine wpAny_setField_rec hz₂ (by simp) fun h₃ _ hs₃ => hE h₃ e (fun c o q0 q1 e' => hs₃.extBut _ _ q0 (hs₂ _ _ q1 (hs₁.extBut _ _ q0 e'))) ⟨oe, hs₃.extBut _ _ hez hoe, hce⟩
  · refine notFree hz hp fun h₁ f1' hz₁ hs₁ => ?_
    refine wpAny_ite_false rfl ?_
    have a1 : Itr tup h₁ i1 l1 k := h1.at fun o e => hs₁.extBut _ _ D.z1 e
    have b1 : Src tup h₁ l1 xs := hl1.at fun o e => hs₁.extBut _ _ D.l1.1 e
    refine wpAny_bind (wpAny_arrayLoop ?_)
    simp only [List.forIn_cons, List.forIn_nil]
    refine wpAny_bind (wpAny_bind (wpAny_holding ?_))
    refine wpAny_ite_false rfl ?_
    exact wpAny_bind (next_end hh a1 b1 hx fun h₂ e hs₂ he => hE h₂ e (fun c o q0 q1 e' => hs₂ _ _ q1 (hs₁.extBut _ _ q0 e')) he)
end
end S72

namespace S72
theorem fill_S72Zip2 (P : Params) : hd.heap_39 P = hd.heap_39 P ∧ Challenge.rw_sz0072_01 = Challenge.rw_sz0072_01 := by
  w_top off
  k_fill
  exact ⟨rfl, rfl⟩

/-- a zip of two lists, or of two tuples, k turns on -/
structure ZSt (tup : Bool) (h : Heap) (z TI TO i1 i2 l1 l2 : Addr) (xs ys : Array Value) (k : Nat) : Prop where
  zo : ∃ f0 f1, h.get? z = some (zipObj f0 f1 TI TO) ∧ ((f0 = .none ∧ f1 = false) ∨ ∃ Tp ot, f0 = rawInt ((Tp : Nat) : Int) ∧ h.get? Tp = some ot)
  ti : IsPair h TI (.ref i1) (.ref i2)
  to : ∃ a b, IsPair h TO a b
  i1 : Itr tup h i1 l1 k
  i2 : Itr tup h i2 l2 k
  s1 : Src tup h l1 xs
  s2 : Src tup h l2 ys

section
variable {prog : Program} {w : World} {A : Around} {E : Value → Shared → Prop} {s : Shared} {tup : Bool} {z TI TO i1 i2 l1 l2 : Addr} {xs ys : Array Value} {k : Nat}

theorem ZSt.at {h h' : Heap} (Z : ZSt tup h z TI TO i1 i2 l1 l2 xs ys k) (e : ∀ c o, h.get? c = some o → h'.get? c = some o) : ZSt tup h' z TI TO i1 i2 l1 l2 xs ys k := by
  obtain ⟨⟨f0, f1, hz, hf⟩, ti, ⟨a, b, to⟩, a1, a2, b1, b2⟩ := Z
  exact ⟨⟨f0, f1, e _ _ hz, hf.imp id fun ⟨Tp, ot, q, r⟩ => ⟨Tp, ot, q, e _ _ r⟩⟩, e _ _ ti, ⟨a, b, e _ _ to⟩, a1.at fun o => e _ o, a2.at fun o => e _ o, b1.at fun o => e _ o, b2.at fun o => e _ o⟩
/-- a turned object elsewhere does not matter -/
theorem ZSt.but {h h' : Heap} {S : Addr} (Z : ZSt tup h z TI TO i1 i2 l1 l2 xs ys k) (e : ∀ c o, c ≠ S → h.get? c = some o → h'.get? c = some o) (eS : ∃ o, h'.get? S = some o)
    (n : S ≠ z ∧ S ≠ TI ∧ S ≠ TO ∧ S ≠ i1 ∧ S ≠ i2 ∧ S ≠ l1 ∧ S ≠ l2) : ZSt tup h' z TI TO i1 i2 l1 l2 xs ys k := by
  obtain ⟨⟨f0, f1, hz, hf⟩, ti, ⟨a, b, to⟩, a1, a2, b1, b2⟩ := Z
  obtain ⟨n1, n2, n3, n4, n5, n6, n7⟩ := n
  refine ⟨⟨f0, f1, e _ _ n1.symm hz, hf.imp id fun ⟨Tp, ot, q, r⟩ => ?_⟩, e _ _ n2.symm ti, ⟨a, b, e _ _ n3.symm to⟩, a1.at fun o => e _ o n4.symm, a2.at fun o => e _ o n5.symm, b1.at fun o => e _ o n6.symm, b2.at fun o => e _ o n7.symm⟩
  by_cases q' : Tp = S
  · obtain ⟨o, ho⟩ := eS
    exact ⟨Tp, o, q, by rw [q']; exact ho⟩
  · exact ⟨Tp, ot, q, e _ _ q' r⟩

theorem zNext {x y : Value} {Q : Option Value → Shared → Prop} (D : Apart z TI i1 i2 l1 l2) (DO : TO ≠ z ∧ TO ≠ i1 ∧ TO ≠ i2 ∧ TO ≠ TI ∧ l1 ≠ TO ∧ l2 ≠ TO)
    (Z : ZSt tup s.heap z TI TO i1 i2 l1 l2 xs ys k) (hx : xs[k]? = some x) (hy : ys[k]? = some y)
    (hQ : ∀ h' : Heap, ZSt tup h' z TI TO i1 i2 l1 l2 xs ys (k + 1) → IsPair h' s.heap.objs.size x y →
      (∀ c o, c ≠ z → c ≠ TO → c ≠ i1 → c ≠ i2 → s.heap.get? c = some o → h'.get? c = some o) → Q (some (.ref s.heap.objs.size)) { s with heap := h' }) :
    wpAny (model prog w) A (pyNext (.ref z)) Q E s := by
  obtain ⟨⟨f0, f1, hz, hf⟩, ti, ⟨a, b, to⟩, a1, a2, b1, b2⟩ := Z
  have hT : s.TypeIs (.ref z) "zip" := ⟨_, hz, rfl⟩
  unfold pyNext
  refine wpAny_bind (wpAny_attempt (wpAny_callSpecial?_slot (name := Str.ofString "__next__") hT F.slot_zip_next (wpAny_call_entry F.slot_zip_next hT F.entry_zip_next ?_ (F.args_zip_next_1 _))))
  rcases hf with ⟨rfl, rfl⟩ | ⟨Tp, ot, rfl, hp⟩
  · refine zip_first D DO hz ti to a1 a2 b1 b2 hx hy fun h' z' c1 c2 t' to' keep => wpAny_pure (hQ h' ?_ t' keep)
    refine ⟨⟨_, _, z', .inr ⟨_, _, rfl, t'⟩⟩, keep _ _ D.ti.1 DO.2.2.2.1.symm D.ti.2.1 D.ti.2.2 ti, ⟨_, _, to'⟩, c1, c2, b1.at fun o => keep _ o D.l1.1 DO.2.2.2.2.1 D.l1.2.1 D.l1.2.2, b2.at fun o => keep _ o D.l2.1 DO.2.2.2.2.2 D.l2.2.1 D.l2.2.2⟩
  · refine zip_held D hz hp ti a1 a2 b1 b2 hx hy fun h' z' c1 c2 t' keep => wpAny_pure (hQ h' ?_ t' fun c o q0 _ q1 q2 => keep c o q0 q1 q2)
    obtain ⟨f1', z'⟩ := z'
    refine ⟨⟨_, f1', z', .inr ?_⟩, keep _ _ D.ti.1 D.ti.2.1 D.ti.2.2 ti, ⟨a, b, keep _ _ DO.1 DO.2.1 DO.2.2.1 to⟩, c1, c2, b1.at fun o => keep _ o D.l1.1 D.l1.2.1 D.l1.2.2, b2.at fun o => keep _ o D.l2.1 D.l2.2.1 D.l2.2.2⟩
    by_cases q0 : Tp = z
    · exact ⟨Tp, _, rfl, by rw [q0]; exact z'⟩
    by_cases q1 : Tp = i1
    · obtain ⟨o, ho⟩ := c1.ref
      exact ⟨Tp, o, rfl, by rw [q1]; exact ho⟩
    by_cases q2 : Tp = i2
    · obtain ⟨o, ho⟩ := c2.ref
      exact ⟨Tp, o, rfl, by rw [q2]; exact ho⟩
    exact ⟨Tp, ot, rfl, keep _ _ q0 q1 q2 hp⟩

theorem zDone {Q : Option Value → Shared → Prop} (hh : A.handled = none) (D : Apart z TI i1 i2 l1 l2) (Z : ZSt tup s.heap z TI TO i1 i2 l1 l2 xs ys k) (hx : xs[k]? = none)
    (hQ : ∀ h' : Heap, (∀ c o, c ≠ z → c ≠ i1 → s.heap.get? c = some o → h'.get? c = some o) → Q none { s with heap := h' }) : wpAny (model prog w) A (pyNext (.ref z)) Q E s := by
  obtain ⟨⟨f0, f1, hz, hf⟩, ti, ⟨a, b, to⟩, a1, a2, b1, b2⟩ := Z
  have hT : s.TypeIs (.ref z) "zip" := ⟨_, hz, rfl⟩
  unfold pyNext
  refine wpAny_bind (wpAny_attempt (wpAny_callSpecial?_slot (name := Str.ofString "__next__") hT F.slot_zip_next (wpAny_call_entry F.slot_zip_next hT F.entry_zip_next
    (zip_end hh D hz (hf.imp (fun q => q.1) id) ti a1 b1 hx fun h' e keep he => ?_) (F.args_zip_next_1 _))))
  obtain ⟨o, ho, hc⟩ := he
  refine wpAny_bind (wpAny_isInstance (T := "StopIteration") (b := true) ⟨o, ho, hc⟩ isSubtype_stop ?_)
  exact wpAny_pure (hQ _ keep)

/-- what the turns of a zip have handed out: pairs, each at a place of its own above n₀ -/
def PairsAt (h : Heap) (n₀ : Nat) (xs ys : Array Value) (k : Nat) (Ts : List Addr) : Prop :=
  Ts.length = k ∧ (∀ t ∈ Ts, n₀ ≤ t) ∧ ∀ (j : Nat) (t : Addr), Ts[j]? = some t → ∃ x y, xs[j]? = some x ∧ ys[j]? = some y ∧ IsPair h t x y

theorem far {a b n : Nat} (h1 : a < n) (h2 : n ≤ b) : b ≠ a := by omega
theorem zLoop {R : Result → Shared → Prop} {S : Addr} {res : Value} {n₀ : Nat} (hh : A.in1.handled = none) (D : Apart z TI i1 i2 l1 l2) (DO : TO ≠ z ∧ TO ≠ i1 ∧ TO ≠ i2 ∧ TO ≠ TI ∧ l1 ≠ TO ∧ l2 ≠ TO)
    (nS : S ≠ z ∧ S ≠ TI ∧ S ≠ TO ∧ S ≠ i1 ∧ S ≠ i2 ∧ S ≠ l1 ∧ S ≠ l2) (low : z < n₀ ∧ TO < n₀ ∧ i1 < n₀ ∧ i2 < n₀ ∧ S < n₀) (hl : xs.size = ys.size) (hn : xs.size ≤ sizeLine) :
    ∀ (m k : Nat) (s : Shared) (Ts : List Addr) (c : Nat), xs.size - k = m → k ≤ xs.size → n₀ ≤ s.heap.objs.size → ZSt tup s.heap z TI TO i1 i2 l1 l2 xs ys k →
    s.heap.get? S = some (listOf (Ts.map Value.ref).toArray c) → PairsAt s.heap n₀ xs ys k Ts →
    (∀ h' Ts' c', h'.get? S = some (listOf (Ts'.map Value.ref).toArray c') → PairsAt h' n₀ xs ys xs.size Ts' →
      (∀ b o, b ≠ z → b ≠ TO → b ≠ i1 → b ≠ i2 → b ≠ S → s.heap.get? b = some o → h'.get? b = some o) → R (.ok (.ret res)) { s with heap := h' }) →
    codeAny (model prog w) A (.builtin "list.extend.loop" ⟨[.ref S, .ref z, res], []⟩) R s := by
  intro m
  induction m with
  | zero =>
    intro k s Ts c hm hk hlo Z hS P hR
    have hk' : k = xs.size := by omega
    subst hk'
    refine codeAny_builtin PySem.F.entry_extend_loop ?_
    rw [Around.under_plainId PySem.F.plain_extend_loop _]
    refine wpAny_bind (m := pyNext (.ref z)) (zDone hh D Z (by simp) fun h' keep => ?_)
    refine wpAny_pure (hR h' Ts c (keep _ _ nS.1 nS.2.2.2.1 hS) ⟨P.1, P.2.1, fun j t e => ?_⟩ fun b o q0 q1 q2 q3 q4 => keep b o q0 q2)
    obtain ⟨x, y, hx, hy, ht⟩ := P.2.2 j t e
    have hge := P.2.1 t (List.mem_of_getElem? e)
    exact ⟨x, y, hx, hy, keep _ _ (far low.1 hge) (far low.2.2.1 hge) ht⟩
  | succ m ih =>
    intro k s Ts c hm hk hlo Z hS P hR
    have hlt : k < xs.size := by omega
    refine codeAny_builtin PySem.F.entry_extend_loop ?_
    rw [Around.under_plainId PySem.F.plain_extend_loop _]
    refine wpAny_bind (m := pyNext (.ref z)) (zNext D DO Z (Array.getElem?_eq_getElem hlt) (Array.getElem?_eq_getElem (hl ▸ hlt)) fun h' Z' t' keep => ?_)
    have hS' := keep _ _ nS.1 nS.2.2.1 nS.2.2.2.1 nS.2.2.2.2.1 hS
    refine wpAny_bind (m := updateSeq S (·.push (.ref s.heap.objs.size))) ?_
    have hTl : (Ts.map Value.ref).toArray.size = k := by rw [List.size_toArray, List.length_map, P.1]
    have hgrow : h'.objs.size ≥ s.heap.objs.size + 1 := Heap.lt_size t'
    refine wpAny_updateSeq hS' rfl (wpAny_pure ⟨plainId_quiet PySem.F.plain_extend_loop _, ih (k + 1) _ (Ts ++ [s.heap.objs.size]) (c + 1) (by omega) hlt ?_ ?_ ?_ ?_ ?_⟩) (by rw [hTl]; omega) (by show ((Ts.map Value.ref).toArray.push _).size ≤ _; rw [Array.size_push, hTl]; omega)
    · show n₀ ≤ (h'.update S _).objs.size
      rw [(Heap.SameBut.update h' S _).1]; omega
    · exact Z'.but (fun b o q e => (Heap.SameBut.update h' S _).extBut b o q e) ⟨_, Heap.get?_update_self _ hS' rfl⟩ nS
    · have e1 := PySem.IsL.update hS' (fun a => a.push (Value.ref s.heap.objs.size))
      rw [if_neg (by rw [Array.size_push]; simp)] at e1
      rw [e1]
      simp
    · refine ⟨by rw [List.length_append, P.1]; rfl, fun t ht => ?_, fun j t e => ?_⟩
      · rcases List.mem_append.mp ht with ht | ht
        · exact P.2.1 t ht
        · rw [List.mem_singleton.mp ht]; exact hlo
      · rcases Nat.lt_trichotomy j k with hj | hj | hj
        · rw [List.getElem?_append_left (by rw [P.1]; exact hj)] at e
          obtain ⟨x, y, hx, hy, ht⟩ := P.2.2 j t e
          have hge := P.2.1 t (List.mem_of_getElem? e)
          refine ⟨x, y, hx, hy, (Heap.SameBut.update h' S _).extBut _ _ (far low.2.2.2.2 hge) (keep _ _ (far low.1 hge) (far low.2.1 hge) (far low.2.2.1 hge) (far low.2.2.2.1 hge) ht)⟩
        · subst hj
          rw [List.getElem?_append_right (by rw [P.1]; exact Nat.le_refl _), P.1, Nat.sub_self] at e
          cases e
          exact ⟨_, _, Array.getElem?_eq_getElem hlt, Array.getElem?_eq_getElem (hl ▸ hlt), (Heap.SameBut.update h' S _).extBut _ _ (far low.2.2.2.2 hlo) t'⟩
        · rw [List.getElem?_eq_none (by rw [List.length_append, P.1, List.length_singleton]; omega)] at e
          cases e
    · intro h'' Ts' c' g1 g2 g3
      exact hR h'' Ts' c' g1 g2 fun b o q0 q1 q2 q3 q4 e => g3 b o q0 q1 q2 q3 q4 ((Heap.SameBut.update h' S _).extBut _ _ q4 (keep b o q0 q1 q2 q3 e))
end
theorem zip_no_len : typeLookup (.type "zip") "__len__" = pure none := by rw [typeLookup_type, builtinLookup_eq_fast]; kernel_rfl
theorem zip_no_hint : typeLookup (.type "zip") "__length_hint__" = pure none := by rw [typeLookup_type, builtinLookup_eq_fast]; kernel_rfl

section
variable {prog : Program} {w : World} {A : Around} {E : Value → Shared → Prop} {s : Shared} {tup : Bool} {z TI TO i1 i2 l1 l2 : Addr} {xs ys : Array Value}
theorem zIter {f0 : Value} {f1 : Bool} {Q : Value → Shared → Prop} (hz : s.heap.get? z = some (zipObj f0 f1 TI TO)) (h : Q (.ref z) s) : wpAny (model prog w) A (pyIter (.ref z)) Q E s := by
  have hT : s.TypeIs (.ref z) "zip" := ⟨_, hz, rfl⟩
  refine wpAny_pyIter_slot hT F.slot_zip_iter (wpAny_call_entry F.slot_zip_iter hT F.entry_zip_iter ?_ (F.args_zip_iter_1 _))
  exact wpAny_pure ⟨_, rfl, "zip", _, hT, F.slot_zip_next.lookup, h⟩
/-- list(..) of a zip that has made no turn -/
theorem zipList {Q : Value → Shared → Prop} (hh : A.handled = none) (D : Apart z TI i1 i2 l1 l2) (DO : TO ≠ z ∧ TO ≠ i1 ∧ TO ≠ i2 ∧ TO ≠ TI ∧ l1 ≠ TO ∧ l2 ≠ TO)
    (Z : ZSt tup s.heap z TI TO i1 i2 l1 l2 xs ys 0) (hl : xs.size = ys.size) (hn : xs.size ≤ sizeLine)
    (hQ : ∀ h' Ts c, h'.get? s.heap.objs.size = some (listOf (Ts.map Value.ref).toArray c) → PairsAt h' (s.heap.objs.size + 1) xs ys xs.size Ts →
      (∀ b o, b ≠ z → b ≠ TO → b ≠ i1 → b ≠ i2 → s.heap.get? b = some o → h'.get? b = some o) → Q (.ref s.heap.objs.size) { s with heap := h' }) :
    wpAny (model prog w) A (call (.type "list") [.ref z]) Q E s := by
  obtain ⟨f0, f1, hz, _⟩ := Z.zo
  obtain ⟨o1, g1⟩ := Z.i1.ref
  obtain ⟨o2, g2⟩ := Z.i2.ref
  obtain ⟨a', b', g3⟩ := Z.to
  have g4 := Z.ti
  have g5 : ∃ o, s.heap.get? l1 = some o := by have := Z.s1; cases tup <;> (obtain ⟨o, q, _⟩ := this; exact ⟨o, q⟩)
  have g6 : ∃ o, s.heap.get? l2 = some o := by have := Z.s2; cases tup <;> (obtain ⟨o, q, _⟩ := this; exact ⟨o, q⟩)
  obtain ⟨o5, g5⟩ := g5
  obtain ⟨o6, g6⟩ := g6
  have ne : ∀ {b : Addr} {o : Obj}, s.heap.get? b = some o → s.heap.objs.size ≠ b := fun e => Nat.ne_of_gt (Heap.lt_size e)
  have nS : s.heap.objs.size ≠ z ∧ s.heap.objs.size ≠ TI ∧ s.heap.objs.size ≠ TO ∧ s.heap.objs.size ≠ i1 ∧ s.heap.objs.size ≠ i2 ∧ s.heap.objs.size ≠ l1 ∧ s.heap.objs.size ≠ l2 := ⟨ne hz, ne g4, ne g3, ne g1, ne g2, ne g5, ne g6⟩
  refine callType_codes (Q₁ := fun obj s₁ => obj = .ref s.heap.objs.size ∧ s₁ = { s with heap := s.heap.push { cls := .type "list", data := .seq #[] } }) F.called_list (F.typeCall_list_1 _) F.entry_list_init
    (code_list_new _ ⟨rfl, rfl⟩) fun obj s₁ h₁ => ?_
  obtain ⟨rfl, rfl⟩ := h₁
  have hS : (s.heap.push { cls := .type "list", data := .seq #[] }).get? s.heap.objs.size = some { cls := .type "list", data := .seq #[] } := Heap.get?_push_size _ rfl
  refine ⟨⟨_, hS, rfl⟩, F.args_list_init_2 _ _, ?_⟩
  refine wpAny_bind (m := Builtin.List.listItems (.ref s.heap.objs.size)) ?_
  unfold Builtin.List.listItems
  refine wpAny_bind (wpAny_seqItems hS rfl (wpAny_pure ?_))
  refine wpAny_bind (m := updateSeq s.heap.objs.size (fun _ => #[])) (wpAny_updateSeq hS rfl ?_)
  have hS₂ := Heap.get?_update_self (Obj.mapSeq (fun _ => (#[] : Array Value))) hS rfl
  refine wpAny_bind (wpAny_letGo ?_)
  have k₂ : ∀ b o, b ≠ s.heap.objs.size → s.heap.get? b = some o → ((s.heap.push { cls := .type "list", data := .seq #[] }).update s.heap.objs.size (Obj.mapSeq (fun _ => (#[] : Array Value)))).get? b = some o :=
    fun b o q e => (Heap.get?_update_other _ _ (Ne.symm q)).trans (Heap.get?_push_of_some _ e)
  have hz₂ := k₂ _ _ nS.1.symm hz
  unfold Builtin.List.listExtendWith
  have hT : ∀ {d : Drawn} {t : Nat} {os : OsState} {g : Array GenState}, (⟨(s.heap.push { cls := .type "list", data := .seq #[] }).update s.heap.objs.size (Obj.mapSeq (fun _ => (#[] : Array Value))), g, d, t, os⟩ : Shared).TypeIs (.ref z) "zip" := ⟨_, hz₂, rfl⟩
  refine wpAny_bind (wpAny_typeOf hT ?_)
  have q1 : Builtin.List.listSameRef (.ref s.heap.objs.size) (.ref z) = false := by simp [Builtin.List.listSameRef, nS.1]
  have q2 : (Value.type "zip" == Value.type "list") = false := by decide
  have q3 : (Value.type "zip" == Value.type "tuple") = false := by decide
  simp only [q1, q2, q3, Bool.or_false, Bool.false_eq_true, if_false]
  refine wpAny_bind (zIter hz₂ ?_)
  refine wpAny_bind (wpAny_holding ?_)
  unfold Builtin.List.listLengthHint
  refine wpAny_bind (wpAny_specialOf hT zip_no_len ?_)
  refine wpAny_bind (m := specialOf (Value.ref z) (Str.ofString "__length_hint__")) (wpAny_specialOf hT zip_no_hint ?_)
  refine wpAny_pure ?_
  refine wpAny_ite_true rfl ?_
  refine wpAny_bind (wpAny_rule ?_)
  refine wpAny_bind (m := Builtin.List.listTouch (.ref s.heap.objs.size)) ?_
  refine wpAny_bind (m := updateSeq s.heap.objs.size (·.push .none)) (wpAny_updateSeq hS₂ rfl ?_)
  have hS₃ := Heap.get?_update_self (Obj.mapSeq (·.push Value.none)) hS₂ rfl
  refine wpAny_updateSeq hS₃ rfl ?_
  have hS₄ : ((((s.heap.push { cls := .type "list", data := .seq #[] }).update s.heap.objs.size (Obj.mapSeq (fun _ => (#[] : Array Value)))).update s.heap.objs.size (Obj.mapSeq (·.push Value.none))).update s.heap.objs.size (Obj.mapSeq (·.pop))).get? s.heap.objs.size
      = some (listOf (([] : List Addr).map Value.ref).toArray 2) := by
    rw [Heap.get?_update_self _ hS₃ rfl]; rfl
  have k₄ : ∀ b o, b ≠ s.heap.objs.size → s.heap.get? b = some o → ((((s.heap.push { cls := .type "list", data := .seq #[] }).update s.heap.objs.size (Obj.mapSeq (fun _ => (#[] : Array Value)))).update s.heap.objs.size (Obj.mapSeq (·.push Value.none))).update s.heap.objs.size (Obj.mapSeq (·.pop))).get? b = some o :=
    fun b o q e => (Heap.get?_update_other _ _ (Ne.symm q)).trans ((Heap.get?_update_other _ _ (Ne.symm q)).trans (k₂ b o q e))
  have size₄ : ((((s.heap.push { cls := .type "list", data := .seq #[] }).update s.heap.objs.size (Obj.mapSeq (fun _ => (#[] : Array Value)))).update s.heap.objs.size (Obj.mapSeq (·.push Value.none))).update s.heap.objs.size (Obj.mapSeq (·.pop))).objs.size = s.heap.objs.size + 1 := by
    rw [(Heap.SameBut.update _ _ _).1, (Heap.SameBut.update _ _ _).1, (Heap.SameBut.update _ _ _).1, Heap.size_push]
  refine wpAny_pure ⟨plainId_quiet PySem.F.plain_extend_loop _, zLoop (A := A.in1) (n₀ := s.heap.objs.size + 1) hh D DO nS
    ⟨Nat.lt_succ_of_lt (Heap.lt_size hz), Nat.lt_succ_of_lt (Heap.lt_size g3), Nat.lt_succ_of_lt (Heap.lt_size g1), Nat.lt_succ_of_lt (Heap.lt_size g2), Nat.lt_succ_self _⟩ hl hn xs.size 0 _ [] 2 (Nat.sub_zero _) (Nat.zero_le _)
    (Nat.le_of_eq size₄.symm) (Z.but k₄ ⟨_, hS₄⟩ nS) hS₄ ⟨rfl, fun t ht => (nomatch ht), fun j t e => by simp at e⟩ fun h' Ts c' r1 r2 r3 => ?_⟩
  exact ⟨rfl, hQ h' Ts c' r1 r2 fun b o p1 p2 p3 p4 e => r3 b o p1 p2 p3 p4 (ne e).symm (k₄ b o (ne e).symm e)⟩

abbrev itObj (l : Addr) : Obj := { cls := .type "tuple_iterator", data := .fields #[.ref l, .int 0 0] }
abbrev zipT (h : Heap) (l1 l2 : Addr) : Heap := (((h.push (itObj l1)).push (itObj l2)).push { cls := .type "tuple", data := .seq #[.ref h.objs.size, .ref (h.push (itObj l1)).objs.size] })
abbrev zipT2 (h : Heap) (l1 l2 : Addr) : Heap := ((zipT h l1 l2).push { cls := .type "tuple", data := .seq #[.none, .none] }).push
  { cls := .type "zip", data := .fields #[.none, .bool false, .bool false, .ref ((h.push (itObj l1)).push (itObj l2)).objs.size, .ref (zipT h l1 l2).objs.size] }
theorem meets_zipT (l1 l2 : Addr) (xs ys : Array Value) :
    Meets (Builtin.«zip.__new__» ⟨[.type "zip", .ref l1, .ref l2], []⟩) (fun _ R s => s.heap.IsTuple l1 xs ∧ s.heap.IsTuple l2 ys ∧
      R (.ok (.ret (.ref ((zipT s.heap l1 l2).push { cls := .type "tuple", data := .seq #[.none, .none] }).objs.size))) { s with heap := zipT2 s.heap l1 l2 }) :=
  .of_wp fun prog w A R s h => by
    obtain ⟨hp, g, d, tk, os⟩ := s
    obtain ⟨hl1, hl2, h⟩ := h
    have hsub := sub_zip
    have hL1 : Heap.IsTuple (Shared.heap ⟨hp, g, d, tk, os⟩) l1 xs := hl1
    have hL2 : Heap.IsTuple (Shared.heap ⟨hp.push { cls := .type "tuple_iterator", data := .fields #[.ref l1, .int 0 0] }, g, d, tk, os⟩) l2 ys := Heap.IsTuple.push hl2 _
    wp_walk using wpAny_pyIter_tuple hL1, wpAny_pyIter_tuple hL2
    exact ⟨_, rfl, h⟩

theorem zipCall {Q : Value → Shared → Prop} (h1 : Src tup s.heap l1 xs) (h2 : Src tup s.heap l2 ys)
    (hQ : ∀ h' : Heap, ZSt tup h' (s.heap.objs.size + 4) (s.heap.objs.size + 2) (s.heap.objs.size + 3) s.heap.objs.size (s.heap.objs.size + 1) l1 l2 xs ys 0 → h'.objs.size = s.heap.objs.size + 5 →
      (∀ c o, s.heap.get? c = some o → h'.get? c = some o) → Q (.ref (s.heap.objs.size + 4)) { s with heap := h' }) :
    wpAny (model prog w) A (call (.type "zip") [.ref l1, .ref l2]) Q E s := by
  cases tup
  · refine call_zip_2 h1 h2 fun h' z ti to' a1 a2 sz keep => hQ h' ⟨⟨.none, false, z, .inl ⟨rfl, rfl⟩⟩, ti, ⟨_, _, to'⟩, a1, a2, Src.at (tup := false) h1 fun o => keep _ o, Src.at (tup := false) h2 fun o => keep _ o⟩ sz keep
  · refine callType_new F.called_zip (by decide) (F.typeCall_zip_2 _ _) (F.newCall_zip_2 _ _) (fun obj => F.args_object_init_3 obj _ _) F.entry_zip_new (meets_zipT l1 l2 xs ys) ⟨h1, h2, ?_⟩
    have z1 : (s.heap.push (itObj l1)).objs.size = s.heap.objs.size + 1 := Heap.size_push ..
    have z2 : ((s.heap.push (itObj l1)).push (itObj l2)).objs.size = s.heap.objs.size + 2 := by rw [Heap.size_push, z1]
    have z3 : (zipT s.heap l1 l2).objs.size = s.heap.objs.size + 3 := by rw [Heap.size_push, z2]
    have z4 : ((zipT s.heap l1 l2).push { cls := .type "tuple", data := .seq #[.none, .none] }).objs.size = s.heap.objs.size + 4 := by rw [Heap.size_push, z3]
    have z5 : (zipT2 s.heap l1 l2).objs.size = s.heap.objs.size + 5 := by rw [Heap.size_push, z4]
    have g5 : (zipT2 s.heap l1 l2).get? ((zipT s.heap l1 l2).push { cls := .type "tuple", data := .seq #[.none, .none] }).objs.size = some _ := Heap.get?_push_size _ rfl
    have g4 : (zipT2 s.heap l1 l2).get? (zipT s.heap l1 l2).objs.size = some _ := Heap.get?_push_of_some _ (Heap.get?_push_size _ rfl)
    have g3 : (zipT2 s.heap l1 l2).get? ((s.heap.push (itObj l1)).push (itObj l2)).objs.size = some _ := Heap.get?_push_of_some _ (Heap.get?_push_of_some _ (Heap.get?_push_size _ rfl))
    have g2 : (zipT2 s.heap l1 l2).get? (s.heap.push (itObj l1)).objs.size = some _ := Heap.get?_push_of_some _ (Heap.get?_push_of_some _ (Heap.get?_push_of_some _ (Heap.get?_push_size _ rfl)))
    have g1 : (zipT2 s.heap l1 l2).get? s.heap.objs.size = some _ := Heap.get?_push_of_some _ (Heap.get?_push_of_some _ (Heap.get?_push_of_some _ (Heap.get?_push_of_some _ (Heap.get?_push_size _ rfl))))
    have keep : ∀ c o, s.heap.get? c = some o → (zipT2 s.heap l1 l2).get? c = some o := fun c o x =>
      Heap.get?_push_of_some _ (Heap.get?_push_of_some _ (Heap.get?_push_of_some _ (Heap.get?_push_of_some _ (Heap.get?_push_of_some _ x))))
    show _ ∧ _
    rw [z2, z3, z4] at g5
    rw [z1, z2] at g3
    rw [z3] at g4
    rw [z1] at g2
    rw [z4]
    exact ⟨⟨_, g5, rfl⟩, hQ _ ⟨⟨.none, false, g5, .inl ⟨rfl, rfl⟩⟩, g3, ⟨_, _, g4⟩, ⟨_, g1, rfl, rfl⟩, ⟨_, g2, rfl, rfl⟩, Src.at (tup := true) h1 fun o => keep _ o, Src.at (tup := true) h2 fun o => keep _ o⟩ z5 keep⟩
end
end S72

namespace S72
theorem fill_S72Zip3 (P : Params) : hd.heap_39 P = hd.heap_39 P ∧ Challenge.rw_sz0072_01 = Challenge.rw_sz0072_01 := by
  w_top off
  k_fill
  exact ⟨rfl, rfl⟩
/-- a fresh zip beside a frame and its ledger -/
structure ZH (tup : Bool) (g : Heap) (L : Addr) (h : Heap) (news : List (Addr × Obj)) (z l1 l2 : Addr) (xs ys : List Value) : Prop where
  ex : ∃ TI TO i1 i2, Apart z TI i1 i2 l1 l2 ∧ (TO ≠ z ∧ TO ≠ i1 ∧ TO ≠ i2 ∧ TO ≠ TI ∧ l1 ≠ TO ∧ l2 ≠ TO) ∧ ZSt tup h z TI TO i1 i2 l1 l2 xs.toArray ys.toArray 0 ∧
    (∀ b, (b = L ∨ b ∈ news.map (·.1) ∨ (∃ o, g.get? b = some o)) → b ≠ z ∧ b ≠ TO ∧ b ≠ i1 ∧ b ≠ i2)

inductive ZP : List Value → List Value → List Value → List (Addr × Obj) → Prop
  | nil : ZP [] [] [] []
  | cons {x y : Value} {xs ys ps : List Value} {t : Addr} {P : List (Addr × Obj)} : ZP xs ys ps P → ZP (x :: xs) (y :: ys) (.ref t :: ps) ((t, tupOf [x, y].toArray 0) :: P)

theorem zp_of {h : Heap} : ∀ (Ts : List Addr) (xs ys : List Value), Ts.length = xs.length → (∀ (j : Nat) (t : Addr), Ts[j]? = some t → ∃ x y, xs[j]? = some x ∧ ys[j]? = some y ∧ IsPair h t x y) → xs.length = ys.length →
    ∃ P, ZP xs ys (Ts.map Value.ref) P ∧ ∀ p ∈ P, h.get? p.1 = some p.2 ∧ p.1 ∈ Ts
  | [], xs, ys, e, _, e' => by
    cases xs with
    | cons _ _ => exact nomatch e
    | nil =>
      cases ys with
      | cons _ _ => exact nomatch e'
      | nil => exact ⟨[], .nil, fun _ hp => nomatch hp⟩
  | t :: Ts, xs, ys, e, k, e' => by
    cases xs with
    | nil => exact nomatch e
    | cons x xs =>
      cases ys with
      | nil => exact nomatch e'
      | cons y ys =>
        obtain ⟨P, hP, hm⟩ := zp_of Ts xs ys (Nat.succ.inj e) (fun j t' q => by
          have := k (j + 1) t' (by simpa using q)
          simpa using this) (Nat.succ.inj e')
        obtain ⟨x', y', q1, q2, q3⟩ := k 0 t rfl
        cases q1
        cases q2
        refine ⟨_, .cons hP, fun p hp => ?_⟩
        rcases List.mem_cons.mp hp with rfl | hp
        · exact ⟨q3, List.mem_cons_self⟩
        · exact ⟨(hm p hp).1, List.mem_cons_of_mem _ (hm p hp).2⟩

section
variable {prog : Program} {w : World} {A : Around} {E : Value → Shared → Prop} {s : Shared} {g : Heap} {L l1 l2 z : Addr} {m : Str → Option Value} {news : List (Addr × Obj)} {xs ys : List Value} {Q : Value → Shared → Prop} {tup : Bool}
theorem s72_zip (F : Fr g L s.heap m) (N : News g L s.heap news) (h1 : Src tup g l1 xs.toArray) (h2 : Src tup g l2 ys.toArray)
    (k : ∀ z h', Fr g L h' m → News g L h' news → ZH tup g L h' news z l1 l2 xs ys → Q (.ref z) { s with heap := h' }) : wpAny (model prog w) A (call (.type "zip") [.ref l1, .ref l2]) Q E s := by
  obtain ⟨oL, _, _, hL, _⟩ := F.ns
  have lt : ∀ {b : Addr} {o : Obj}, s.heap.get? b = some o → b < s.heap.objs.size := fun e => Heap.lt_size e
  have e1 : ∃ o, s.heap.get? l1 = some o := by cases tup <;> (obtain ⟨o, q, _⟩ := h1; exact ⟨o, F.keep _ _ q⟩)
  have e2 : ∃ o, s.heap.get? l2 = some o := by cases tup <;> (obtain ⟨o, q, _⟩ := h2; exact ⟨o, F.keep _ _ q⟩)
  obtain ⟨o1, e1⟩ := e1
  obtain ⟨o2, e2⟩ := e2
  have p1 := lt e1
  have p2 := lt e2
  have n1 : ∀ {a : Addr} (j : Nat), a < s.heap.objs.size → a ≠ s.heap.objs.size + j := fun j q r => by subst r; exact absurd q (Nat.not_lt.mpr (Nat.le_add_right _ _))
  have nj : ∀ i j : Nat, i ≠ j → s.heap.objs.size + i ≠ s.heap.objs.size + j := fun i j q r => q (Nat.add_left_cancel r)
  refine zipCall (h1.at fun o => F.keep _ o) (h2.at fun o => F.keep _ o) fun h' Z sz keep => k _ h' ?_ (fun p hp => ⟨keep _ _ (N p hp).1, (N p hp).2⟩) ⟨_, _, _, _, ⟨⟨nj 2 4 (by decide), nj 2 0 (by decide), nj 2 1 (by decide)⟩, nj 0 4 (by decide), nj 1 4 (by decide), nj 0 1 (by decide), ⟨n1 4 p1, n1 0 p1, n1 1 p1⟩, ⟨n1 4 p2, n1 0 p2, n1 1 p2⟩⟩,
    ⟨nj 3 4 (by decide), nj 3 0 (by decide), nj 3 1 (by decide), nj 3 2 (by decide), n1 3 p1, n1 3 p2⟩, Z, fun b hb => ?_⟩
  · exact fr_stays F keep
  · have hlt : b < s.heap.objs.size := by
      rcases hb with rfl | hb | ⟨o, hb⟩
      · exact lt hL
      · obtain ⟨p, hp, rfl⟩ := List.mem_map.mp hb
        exact lt (N p hp).1
      · exact lt (F.keep _ _ hb)
    exact ⟨n1 4 hlt, n1 3 hlt, n1 0 hlt, n1 1 hlt⟩

theorem s72_listZip (hh : A.handled = none) (F : Fr g L s.heap m) (N : News g L s.heap news) (H : ZH tup g L s.heap news z l1 l2 xs ys) (hl : xs.length = ys.length) (hn : xs.length ≤ sizeLine)
    (k : ∀ S c h' ps P, Fr g L h' m → News g L h' ((S, listOf (List.toArray ps) c) :: (P ++ news)) → ZP xs ys ps P → (∀ q ∈ news, q.1 < S) → (∀ p ∈ P, S < p.1) → Q (.ref S) { s with heap := h' }) :
    wpAny (model prog w) A (call (.type "list") [.ref z]) Q E s := by
  obtain ⟨TI, TO, i1, i2, D, DO, Z, farb⟩ := H.ex
  obtain ⟨oL, esL, epL, hL, rL⟩ := F.ns
  refine zipList hh D DO Z (by simpa using hl) (by simpa using hn) fun h' Ts c hS P keep => ?_
  have keepb : ∀ b o, (b = L ∨ b ∈ news.map (·.1) ∨ (∃ o, g.get? b = some o)) → s.heap.get? b = some o → h'.get? b = some o := fun b o hb e => by
    obtain ⟨q1, q2, q3, q4⟩ := farb b hb
    exact keep b o q1 q2 q3 q4 e
  have F' : Fr g L h' m := ⟨⟨oL, esL, epL, keepb _ _ (.inl rfl) hL, rL⟩, fun b o e => keepb b o (.inr (.inr ⟨o, e⟩)) (F.keep b o e), F.above⟩
  have N' : News g L h' news := fun p hp => ⟨keepb _ _ (.inr (.inl (List.mem_map_of_mem hp))) (N p hp).1, (N p hp).2⟩
  obtain ⟨P₁, hZ, hm⟩ := zp_of Ts xs ys (by rw [P.1]; simp) (fun j t e => by simpa using P.2.2 j t e) hl
  have fresh : ∀ {t : Addr}, s.heap.objs.size ≤ t → t ≠ L ∧ g.get? t = none := fun {t} q => by
    refine ⟨fun r => ?_, ?_⟩
    · subst r; exact absurd (Heap.lt_size hL) (Nat.not_lt.mpr q)
    · cases r : g.get? t with
      | none => rfl
      | some o => exact absurd (Heap.lt_size (F.keep _ _ r)) (Nat.not_lt.mpr q)
  refine k _ c h' (Ts.map Value.ref) P₁ F' (fun p hp => ?_) hZ (fun q hq => Heap.lt_size (N q hq).1) fun p hp => P.2.1 _ (hm p hp).2
  rcases List.mem_cons.mp hp with rfl | hp
  · exact ⟨hS, fresh (Nat.le_refl _)⟩
  · rcases List.mem_append.mp hp with hp | hp
    · exact ⟨(hm p hp).1, fresh (Nat.le_of_succ_le (P.2.1 _ (hm p hp).2))⟩
    · exact N' p hp
end
end S72

namespace S72
theorem fill_S72Use (P : Params) : hd.heap_39 P = hd.heap_39 P ∧ Challenge.rw_sz0072_01 = Challenge.rw_sz0072_01 := by
  w_top off
  k_fill
  exact ⟨rfl, rfl⟩
section
variable {w : World} {mean : ExcName → Option Value} {mg mb : Str → Option Value} {dN uN : Nat} {f : Addr} {vs : List Value} {Pre : Heap → Prop} {Post : Heap → Heap → Value → Prop}
  {dp un : Nat} {gd : Option (List Code)} {cn : Str} {cs : Scope} {L a : Addr} {ccd : Value} {cl : List (Str × Addr)} {outer : List Env} {A₀ : Around} {base h₀ : Heap} {m : Str → Option Value} {s : Shared} {Q E : Value → Shared → Prop} {news : List (Addr × Obj)}
theorem does_use (D : Does w mean mg mb dN uN f vs Pre Post) (B : Below A₀ base outer h₀) (F : Fr h₀ L s.heap m) (N : News h₀ L s.heap news) (X : (hd.heap_39 w.params).In h₀) (T : Top hd.view_39 (looseW hd.view_39 []) mean mg mb h₀) (hk : cs.kind = .function)
    (hd : dp + dN < recursionLimit) (hu : un + uN < cLine) (hp : Pre s.heap)
    (ret : ∀ r h' tk', Fr h₀ L h' m → News h₀ L h' news → StaysBut L s.heap h' → Post s.heap h' r → Q r { s with heap := h', toks := tk' }) :
    wpAny (model Challenge.rw_sz0072_01.row.prog w) (ktrTop dp un gd cn cs L a ccd cl outer) (call (.ref f) vs) Q E s :=
  D dp un gd cn cs L a ccd cl outer A₀ base h₀ m s Q E B F X T hk hd hu hp fun r h' tk' F' st p => ret r h' tk' F' (st.news N) st p
end
end S72

namespace S72
theorem fill_S72Tree (P : Params) : hd.heap_39 P = hd.heap_39 P ∧ Challenge.rw_sz0072_01 = Challenge.rw_sz0072_01 := by
  w_top off
  k_fill
  exact ⟨rfl, rfl⟩
local macro_rules | `(tactic| k_inst) => `(tactic| (refine' s72_inst ?F ?h1 ?h2; (case F => k_asm); (case h1 => assumption); (case h2 => assumption)))
local macro_rules | `(tactic| kit_at) => `(tactic| (refine' s72_at ?F ?h1 ?c; (case F => k_asm); (case h1 => assumption); (case c => exact rfl)))
local macro_rules | `(tactic| k_room) => `(tactic| ktr_room)
local macro_rules | `(tactic| walk_at "call builtin:isinstance") => `(tactic| (k_here; k_dflt (first
  | (refine' isi_Node ?R ?F ?X ?_; (case R => with_reducible assumption); (case F => k_asm); (case X => k_asm); k_whole)
  | (refine' isi_tuple ?R ?F ?X ?_; (case R => with_reducible assumption); (case F => k_asm); (case X => k_asm); k_whole)
  | (refine' isi_bool ?R ?F ?X ?_; (case R => with_reducible assumption); (case F => k_asm); (case X => k_asm); k_whole)
  | (refine' isi_seq ?R ?F ?N ?X ?m ?_; (case R => with_reducible assumption); (case F => k_asm); (case N => k_asm); (case X => k_asm); (case m => k_mem); k_whole)
  | (refine' isi_full ?R ?F ?N ?X ?m ?_; (case R => with_reducible assumption); (case F => k_asm); (case N => k_asm); (case X => k_asm); (case m => k_mem); k_whole)); intro tk'))
local macro_rules | `(tactic| walk_at "call type:list") => `(tactic| (k_here; (with_reducible show wpAny _ _ (call (Value.type _) [Value.ref _]) _ _ _); k_dflt (first
  | (refine' s72_listL ?F ?N ?h ?z ?_; (case F => k_asm); (case N => k_asm); (case h => assumption); (case z => assumption))
  | (refine' s72_listT ?F ?N ?h ?z ?_; (case F => k_asm); (case N => k_asm); (case h => assumption); (case z => assumption))); intro D' c' h' F' N' l1; (try k_lt l1); (try k_sweep)))
local macro_rules | `(tactic| walk_at "subscriptTail Name Slice ref ref") => `(tactic| (k_here; (with_reducible show wpAny _ _ (subscriptTail _ (PySem.Expr.Slice none none (some _) _) (Value.ref _) (Value.ref _)) _ _ _); k_dflt (refine' s72_rev ?F ?N ?m ?k ?z ?_ ?s ?t; (case F => k_asm); (case N => k_asm); (case m => k_mem); (case k => exact IsPart.int _ _); (case s => with_unfolding_all rfl); (case t => kmk_pure); (case z => assumption)); intro D' h' F' N' l1; (try k_lt l1); (try k_sweep)))
local macro_rules | `(tactic| walk_at "call builtin:len") => `(tactic| (k_here; (with_reducible show wpAny _ _ (call (Value.builtin "len") [Value.ref _]) _ _ _); k_dflt (first
  | (refine' s72_len ?N ?m ?z ?_; (case N => k_asm); (case m => k_mem); (case z => assumption))
  | (refine' s72_lenG ?F ?h ?z ?_; (case F => k_asm); (case h => assumption); (case z => assumption))
  | (refine' s72_lenT ?F ?h ?z ?_; (case F => k_asm); (case h => assumption); (case z => assumption))); intro tk'))
local macro_rules | `(tactic| walk_at "call builtin:list.pop") => `(tactic| (k_here; (with_reducible show wpAny _ _ (call (Value.builtin _) [Value.ref _]) _ _ _); k_dflt (refine' s72_pop ?F ?N ?U ?z ?_; (case F => k_asm); (case N => k_asm); (case U => k_upd); (case z => assumption)); intro h' F' N'; (try k_sweep)))
local macro_rules | `(tactic| walk_at "call builtin:list.append") => `(tactic| (k_here; (with_reducible show wpAny _ _ (call (Value.builtin _) [Value.ref _, _]) _ _ _); k_dflt (refine' s72_append ?F ?N ?U ?z ?_; (case F => k_asm); (case N => k_asm); (case U => k_upd); (case z => assumption)); intro h' F' N'; (try k_sweep)))
local macro_rules | `(tactic| walk_at "call builtin:list.extend") => `(tactic| (k_here; (with_reducible show wpAny _ _ (call (Value.builtin _) [Value.ref _, Value.ref _]) _ _ _); k_dflt (refine' s72_extend ?F ?N ?m ?U ?z ?_; (case F => k_asm); (case N => k_asm); (case m => k_mem); (case U => k_updF); (case z => assumption)); intro h' n' F' N'; (try dsimp only at N'); (try k_sweep)))
local macro_rules | `(tactic| k_steps) => `(tactic| repeat' (first
  | ((fail_if_success (with_reducible show wpAny _ _ (exec (Stmt.While _ _ _ _) _) _ _ _)); first | (k_unfold; (try dsimp only)) | (k_end; kc_close) | walk1 | (dsimp only; walk1) | (leave1; walk_say "STEP leave1"; (try dsimp only)))
  | fail "no step"))
local macro_rules | `(tactic| k_all) => `(tactic| assumption)
local macro_rules | `(tactic| walk_at "call ref") => `(tactic| (k_here; (with_reducible show wpAny _ _ (call (Value.ref 54) [_, _]) _ _ _); k_dflt (refine' does_use (kind_does _ _ _ _) ?B ?F ?N ?X ?T ?k ?d ?u ?p ?_; (case B => k_asm); (case F => k_asm); (case N => k_asm); (case X => k_asm); (case T => k_asm); (case k => first | exact rfl | assumption); (case d => ktr_room); (case u => ktr_units); (case p => exact ⟨Rep.mono (fun _ _ e9 => Fr.keep (by assumption) _ _ e9) (by assumption), Rep.mono (fun _ _ e9 => Fr.keep (by assumption) _ _ e9) (by assumption)⟩)); intro r9 h' tk' F' N' st9 e9; subst e9; clear st9; (try k_sweep)))
local macro_rules | `(tactic| walk_at "call type:zip") => `(tactic| (k_here; (with_reducible show wpAny _ _ (call (Value.type "zip") [Value.ref _, Value.ref _]) _ _ _); k_dflt (refine' s72_zip ?F ?N ?a ?b ?_; (case F => k_asm); (case N => k_asm); (case a => assumption); (case b => assumption)); intro z' h' F' N' H'; (try k_sweep)))
local macro_rules | `(tactic| walk_at "call type:list") => `(tactic| (k_here; (with_reducible show wpAny _ _ (call (Value.type "list") [Value.ref _]) _ _ _); k_dflt (refine' s72_listZip (by rfl) ?F ?N ?H ?l ?n ?_; (case H => assumption); (case F => k_asm); (case N => k_asm); (case l => first | assumption | omega); (case n => assumption)); intro S' c' h' ps' P' F' N' Z' l1 l2; (try k_sweep)))

/-- the kids of a tree -/
def Tr.kids : Tr → List Tr
  | .node _ ts => ts
  | .list ts => ts
  | .tuple ts => ts
  | _ => []
def sizeW : List (Tr × Tr) → Nat
  | [] => 0
  | p :: r => p.1.size + p.2.size + sizeW r
inductive WP (w : World) (S : Addr → Obj → Prop) : List Value → List (Tr × Tr) → List (Addr × Obj) → Prop
  | nil : WP w S [] [] []
  | cons {p : Addr} {v u : Value} {a b : Tr} {n : Nat} {ws : List Value} {W : List (Tr × Tr)} {P : List (Addr × Obj)} : Rep w S v a → Rep w S u b → WP w S ws W P → WP w S (.ref p :: ws) ((a, b) :: W) ((p, tupOf [v, u].toArray n) :: P)

section
variable {w : World} {S : Addr → Obj → Prop}
theorem WP.length : ∀ {ws : List Value} {W : List (Tr × Tr)} {P : List (Addr × Obj)}, WP w S ws W P → ws.length = W.length
  | _, _, _, .nil => rfl
  | _, _, _, .cons _ _ r => congrArg (· + 1) r.length
theorem WP.append : ∀ {ws : List Value} {W : List (Tr × Tr)} {P : List (Addr × Obj)} {ws' : List Value} {W' : List (Tr × Tr)} {P' : List (Addr × Obj)}, WP w S ws W P → WP w S ws' W' P' → WP w S (ws ++ ws') (W ++ W') (P ++ P')
  | _, _, _, _, _, _, .nil, r => r
  | _, _, _, _, _, _, .cons a b q, r => .cons a b (q.append r)
theorem wp_nil {ws : List Value} {P : List (Addr × Obj)} (h : WP w S ws [] P) : ws = [] ∧ P = [] := by
  cases h; exact ⟨rfl, rfl⟩
theorem wp_snoc : ∀ {ws : List Value} {W : List (Tr × Tr)} {P : List (Addr × Obj)} {a b : Tr}, WP w S ws (W ++ [(a, b)]) P →
    ∃ us p v u n P', ws = us ++ [.ref p] ∧ P = P' ++ [(p, tupOf (List.toArray [v, u]) n)] ∧ WP w S us W P' ∧ Rep w S v a ∧ Rep w S u b
  | _, [], _, a, b, .cons (p := p) (v := v) (u := u) (n := n) ra rb r => by
    obtain ⟨rfl, rfl⟩ := wp_nil r
    exact ⟨[], p, v, u, n, [], rfl, rfl, .nil, ra, rb⟩
  | _, x :: W, _, a, b, .cons (p := q) ra rb r => by
    obtain ⟨us, p, v, u, n, P', rfl, rfl, r1, r2, r3⟩ := wp_snoc r
    exact ⟨_ :: us, p, v, u, n, _ :: P', rfl, rfl, .cons ra rb r1, r2, r3⟩
theorem wp_zip {xs ys ps : List Value} {P : List (Addr × Obj)} (z : ZP xs ys ps P) : ∀ {ts us : List Tr}, RepL w S xs ts → RepL w S ys us → WP w S ps (ts.zip us) P := by
  induction z with
  | nil =>
    intro ts us a b
    cases a
    cases b
    exact .nil
  | cons _ ih =>
    intro ts us a b
    cases a with
    | cons a r =>
      cases b with
      | cons b q => exact .cons a b (ih r q)
end
theorem sizeW_append : ∀ W W' : List (Tr × Tr), sizeW (W ++ W') = sizeW W + sizeW W'
  | [], _ => by simp only [List.nil_append, sizeW]; omega
  | p :: W, W' => by
    simp only [List.cons_append, sizeW]
    rw [sizeW_append W W']
    omega
theorem sizeW_zip : ∀ ts us : List Tr, ts.length = us.length → sizeW (ts.zip us) = sizeL ts + sizeL us
  | [], [], _ => rfl
  | t :: ts, u :: us, h => by
    simp only [List.zip_cons_cons, sizeW, sizeL]
    rw [sizeW_zip ts us (Nat.succ.inj h)]
    omega
theorem len_sizeW : ∀ W : List (Tr × Tr), W.length ≤ sizeW W
  | [] => Nat.le_refl _
  | p :: W => by
    have := len_sizeW W
    have := p.1.size_pos
    simp only [List.length_cons, sizeW]
    omega
theorem all_zip : ∀ ts us : List Tr, ts.length = us.length → ((∀ p ∈ ts.zip us, p.1 = p.2) ↔ ts = us)
  | [], [], _ => by simp
  | t :: ts, u :: us, h => by
    rw [List.zip_cons_cons, List.forall_mem_cons, all_zip ts us (Nat.succ.inj h), List.cons.injEq]

theorem sameKind_self (a : Tr) : sameKind a a = true := by
  cases a with
  | node k _ => exact beq_self_eq_true k
  | bool b => exact beq_self_eq_true b
  | int i => exact beq_self_eq_true i
  | str x => exact beq_self_eq_true x
  | none => rfl
  | list _ => rfl
  | tuple _ => rfl
theorem differ {W : List (Tr × Tr)} {a b t₁ t₂ : Tr} (htar : (∀ p ∈ W ++ [(a, b)], p.1 = p.2) ↔ t₁ = t₂) (h : a ≠ b) : false = true ↔ t₁ = t₂ :=
  ⟨fun h => (nomatch h), fun e => absurd (htar.mpr e (a, b) (List.mem_append_right _ (.head _))) h⟩
theorem kind_differ {a b : Tr} (h : sameKind a b = false) : a ≠ b := fun e => by
  subst e
  rw [sameKind_self] at h
  cases h
theorem leaf_same {a b : Tr} (h : sameKind a b = true) (hn : a.isNode = false) (hs : a.isSeq = false) : a = b := by
  cases a with
  | node k _ => cases hn
  | list _ => cases hs
  | tuple _ => cases hs
  | none => cases b <;> first | rfl | (cases h; done)
  | bool x => cases b with
    | bool y => exact congrArg Tr.bool (eq_of_beq (show (x == y) = true from h))
    | _ => cases h
  | int x => cases b with
    | int y => exact congrArg Tr.int (eq_of_beq (show (x == y) = true from h))
    | _ => cases h
  | str x => cases b with
    | str y => exact congrArg Tr.str (eq_of_beq (show (x == y) = true from h))
    | _ => cases h
theorem tail_same {W : List (Tr × Tr)} {a b t₁ t₂ : Tr} {V : List (Tr × Tr)} (htar : (∀ p ∈ W ++ [(a, b)], p.1 = p.2) ↔ t₁ = t₂) (h : (∀ p ∈ V, p.1 = p.2) ↔ a = b) : (∀ p ∈ W ++ V, p.1 = p.2) ↔ t₁ = t₂ := by
  rw [← htar]
  simp only [List.mem_append, List.mem_singleton]
  constructor
  · intro k p hp
    rcases hp with hp | rfl
    · exact k p (.inl hp)
    · exact h.mp fun q hq => k q (.inr hq)
  · intro k p hp
    rcases hp with hp | hp
    · exact k p (.inl hp)
    · exact h.mpr (k (a, b) (.inr rfl)) p hp
theorem two_names {pv qv v u : Option Value} {r : Str → Option Value} : (fun y => if y = Str.ofString "here" then v else if y = Str.ofString "there" then u else if y = Str.ofString "there" then qv else if y = Str.ofString "here" then pv else r y) = fun y => if y = Str.ofString "there" then u else if y = Str.ofString "here" then v else r y := by
  funext y
  by_cases h : y = Str.ofString "there"
  · subst h; rfl
  · by_cases h' : y = Str.ofString "here"
    · simp only [if_neg h, if_pos h']
    · simp only [if_neg h, if_neg h']
theorem zp_ready {g h : Heap} {L aw S : Addr} {ws ps : List Value} {c c' : Nat} {P P' mid : List (Addr × Obj)} (N : News g L h ((S, listOf ps.toArray c') :: (P' ++ mid))) (hm : (aw, listOf ws.toArray c) ∈ mid) (hs : ∀ q ∈ P, q ∈ mid)
    (l1 : ∀ q ∈ mid, q.1 < S) (l2 : ∀ q ∈ P', S < q.1) (hP : ∀ q ∈ P, q.1 ≠ aw) :
    News g L h ((aw, listOf ws.toArray c) :: (S, listOf ps.toArray c') :: (P ++ P')) ∧ ∀ q ∈ (S, listOf ps.toArray c') :: (P ++ P'), q.1 ≠ aw := by
  have la : @LT.lt Nat _ aw S := l1 _ hm
  refine ⟨fun q hq => N q ?_, fun q hq => ?_⟩
  · rcases List.mem_cons.mp hq with rfl | hq
    · exact .tail _ (List.mem_append_right _ hm)
    · rcases List.mem_cons.mp hq with rfl | hq
      · exact .head _
      · rcases List.mem_append.mp hq with hq | hq
        · exact .tail _ (List.mem_append_right _ (hs q hq))
        · exact .tail _ (List.mem_append_left _ hq)
  · rcases List.mem_cons.mp hq with rfl | hq
    · exact Nat.ne_of_gt la
    · rcases List.mem_append.mp hq with hq | hq
      · exact hP q hq
      · exact Nat.ne_of_gt (Nat.lt_trans la (l2 q hq))
theorem zp_len {xs ys ps : List Value} {P : List (Addr × Obj)} (h : ZP xs ys ps P) : ps.length = xs.length := by
  induction h with
  | nil => rfl
  | cons _ ih => exact congrArg (· + 1) ih
theorem here_there {pv qv v u : Option Value} {r : Str → Option Value} : (fun y => if y = Str.ofString "there" then u else if y = Str.ofString "here" then v else if y = Str.ofString "there" then qv else if y = Str.ofString "here" then pv else r y) = fun y => if y = Str.ofString "there" then u else if y = Str.ofString "here" then v else r y := by
  funext y
  by_cases h : y = Str.ofString "there"
  · simp only [if_pos h]
  · by_cases h' : y = Str.ofString "here"
    · simp only [if_neg h, if_pos h']
    · simp only [if_neg h, if_neg h']

section
variable {w : World} {mean : ExcName → Option Value} {mg mb : Str → Option Value}
set_option maxHeartbeats 8000000 in
theorem tree_does (v₁ v₂ : Value) (t₁ t₂ : Tr) : Does w mean mg mb 20 150 61 [v₁, v₂] (fun h => Rep w (SH h) v₁ t₁ ∧ Rep w (SH h) v₂ t₂ ∧ t₁.size + t₂.size ≤ 1000000) (fun _ _ r => ∃ b : Bool, r = .bool b ∧ (b = true ↔ t₁ = t₂)) := by
  refine does_of (binds := [(Str.ofString "one", v₁), (Str.ofString "other", v₂)]) (by k_is) (by k_is) (by decide) (fun s => BindsTo.of_eq rfl) (locs rfl) ?_ rfl rfl rfl (by decide)
  intro dp un gd outer A₀ base g L h₁ s Q B F X T hd hu hpre hL hret
  have N : News g L h₁ [] := News.nil
  obtain ⟨R1, R2, hz⟩ := hpre
  k_steps
  rename_i tp _ _ aw _ hlt h' F' N'
  have hne : @LT.lt Nat _ tp aw := hlt
  refine While_inv2 (J := fun n m₁ news₁ => ∃ (pv qv : Option Value) (ws : List Value) (c : Nat) (W : List (Tr × Tr)) (P : List (Addr × Obj)),
    m₁ = (fun y => if y = Str.ofString "there" then qv else if y = Str.ofString "here" then pv else if y = Str.ofString "waiting" then some (.ref aw) else List.lookup y [(Str.ofString "one", v₁), (Str.ofString "other", v₂)].reverse) ∧
    news₁ = (aw, listOf ws.toArray c) :: P ∧ (∀ p ∈ P, p.1 ≠ aw) ∧ WP w (SH g) ws W P ∧ ((∀ p ∈ W, p.1 = p.2) ↔ t₁ = t₂) ∧ sizeW W = n ∧ sizeW W ≤ 1000000) (n₀ := t₁.size + t₂.size) F' N' ?_ ?_ PassesOwn.never
  · refine ⟨none, none, [.ref tp], 0, [(t₁, t₂)], [(tp, tupOf (List.toArray [v₁, v₂]) 0)], ?_, rfl, ?_, .cons R1 R2 .nil, ?_, ?_, ?_⟩
    · funext y
      by_cases hy : y = Str.ofString "there"
      · subst hy; rfl
      · rw [if_neg hy]
        by_cases hy : y = Str.ofString "here"
        · subst hy; rfl
        · rw [if_neg hy]
    · intro p hp
      rw [List.mem_singleton.mp hp]
      exact Nat.ne_of_lt hne
    · simp
    · simp only [sizeW, Nat.add_zero]
    · simp only [sizeW, Nat.add_zero]; exact hz
  · rintro n m₁ news₁ h₂ tk₁ F₂ N₂ ⟨pv, qv, ws, c, W, P, rfl, rfl, hP, hW, htar, hsz, hbd⟩
    clear F' N' R1 R2 hz
    rcases List.eq_nil_or_concat W with rfl | ⟨W, ⟨a, b⟩, rfl⟩
    · obtain ⟨rfl, rfl⟩ := wp_nil hW
      have hl0 : ([] : List Value).length ≤ sizeLine := Nat.zero_le _
      k_steps
      exact hret _ _ _ (Fr.keep F₂) ⟨true, rfl, by simpa using htar⟩
    · rw [List.concat_eq_append] at *
      obtain ⟨ws, p, v, u, nn, P, rfl, rfl, hWN, Ra, Rb⟩ := wp_snoc hW
      clear hW
      have hl0 : (ws ++ [Value.ref p]).length ≤ sizeLine := by
        rw [sizeLine_eq]
        have := hWN.length
        have := len_sizeW (W ++ [(a, b)])
        simp only [List.length_append, List.length_singleton] at *
        omega
      have hpos : ((ws ++ [Value.ref p]).length : Int) > 0 := by simp only [List.length_append, List.length_singleton]; omega
      rw [sizeW_append] at hsz hbd
      simp only [sizeW, Nat.add_zero] at hsz hbd
      have hp := a.size_pos
      have N₃ : News g L h₂ ((aw, listOf (ws ++ [Value.ref p]).toArray c) :: (p, tupOf (List.toArray [v, u]) nn) :: P) := fun q hq => N₂ q (by
        rcases List.mem_cons.mp hq with rfl | hq
        · exact .head _
        · rcases List.mem_cons.mp hq with rfl | hq
          · exact .tail _ (List.mem_append_right _ (.head _))
          · exact .tail _ (List.mem_append_left _ hq))
      have hP2 : ∀ q ∈ (p, tupOf (List.toArray [v, u]) nn) :: P, q.1 ≠ aw := fun q hq => hP q (by
        rcases List.mem_cons.mp hq with rfl | hq
        · exact List.mem_append_right _ (.head _)
        · exact List.mem_append_left _ hq)
      clear N₂ hP
      k_steps
      · rename_i F' N' hS _ hN
        cases Ra
        case node h1 h2 h3 hr =>
          cases Rb
          case node j1 j2 j3 jr =>
            dsimp only [SH] at h1 h2 h3 j1 j2 j3
            rename_i pl1 vs1 _ _ ts1 k1 _ _ _ _ _ _ _ _ pl2 vs2 _ _ ts2 k2 _ _ _ _ _ _
            have hk : k1 = k2 := eq_of_beq hS
            have e1 : (Tr.node k1 ts1).size = 1 + sizeL ts1 := rfl
            have e2 : (Tr.node k2 ts2).size = 1 + sizeL ts2 := rfl
            have hrl := hr.length
            have jrl := jr.length
            have z1 := len_sizeL ts1
            have z2 := len_sizeL ts2
            have hl1 : vs1.length ≤ sizeLine := by rw [sizeLine_eq]; omega
            have hl2 : vs2.length ≤ sizeLine := by rw [sizeLine_eq]; omega
            have hs1 : Src false g pl1 vs1.toArray := ⟨_, h3, rfl, _, rfl⟩
            have hs2 : Src false g pl2 vs2.toArray := ⟨_, j3, rfl, _, rfl⟩
            k_steps
            · rename_i hQ
              exact hret _ _ _ (Fr.keep (by assumption)) ⟨false, rfl, differ htar (fun e => hQ (by rw [hrl, jrl]; injection e with _ e; rw [e]))⟩
            · rename_i S' c' _ ps' P' F' N' Z' l1 l2
              have hlen : ts1.length = ts2.length := by omega
              obtain ⟨N9, hne9⟩ := zp_ready (P := P) N' (.tail _ (.tail _ (.head _))) (fun q hq => .tail _ (.tail _ (.tail _ (.tail _ hq)))) l1 l2 (fun q hq => hP2 q (.tail _ hq))
              have hz9 : ws.length + ps'.length ≤ sizeLine := by
                rw [sizeLine_eq]
                have := zp_len Z'
                have := hWN.length
                have := len_sizeW W
                omega
              refine s72_extend F' N9 (.tail _ (.head _)) (UpdF.head hne9) hz9 ?_
              intro h9 n9 F9 N9
              k_steps
              refine ⟨_, _, _, _, sizeW (W ++ ts1.zip ts2), rfl, F9, fun q hq => N9 q (by
                  rcases List.mem_cons.mp hq with rfl | hq
                  · exact .head _
                  · exact .tail _ (.tail _ hq)), ?_, some _, some _, ws ++ ps', n9, W ++ ts1.zip ts2, P ++ P', (two_names.trans here_there), rfl, fun q hq => hne9 q (.tail _ hq), hWN.append (wp_zip Z' hr jr), tail_same htar ?_, rfl, ?_⟩
              · rw [sizeW_append, sizeW_zip _ _ hlen]; omega
              · rw [all_zip _ _ hlen]
                exact ⟨fun e => by rw [hk, e], fun e => by injection e⟩
              · rw [sizeW_append, sizeW_zip _ _ hlen]; omega
          all_goals exact (Bool.false_ne_true (show false = true from hS)).elim
        all_goals exact (Bool.false_ne_true (show false = true from hN)).elim
      · rename_i hS _ hN D0 _ F' N' lD _ hQ
        cases Ra
        case list h1 hr =>
          cases Rb
          case list j1 jr =>
            dsimp only [SH] at h1 j1
            rename_i al1 vs1 _ ts1 al2 vs2 _ ts2
            have e1 : (Tr.list ts1).size = 1 + sizeL ts1 := rfl
            have e2 : (Tr.list ts2).size = 1 + sizeL ts2 := rfl
            have hrl := hr.length
            have jrl := jr.length
            have z1 := len_sizeL ts1
            have z2 := len_sizeL ts2
            have hl1 : vs1.length ≤ sizeLine := by rw [sizeLine_eq]; omega
            have hl2 : vs2.length ≤ sizeLine := by rw [sizeLine_eq]; omega
            have hs1 : Src false g al1 vs1.toArray := ⟨_, h1, rfl, _, rfl⟩
            have hs2 : Src false g al2 vs2.toArray := ⟨_, j1, rfl, _, rfl⟩
            k_steps
            · rename_i hQ
              exact hret _ _ _ (Fr.keep (by assumption)) ⟨false, rfl, differ htar (fun e => hQ (by rw [hrl, jrl]; injection e with e; rw [e]))⟩
            · rename_i S' c' _ ps' P' F' N' Z' l1 l2
              have hlen : ts1.length = ts2.length := by omega
              obtain ⟨N9, hne9⟩ := zp_ready (P := P) N' (.tail _ (.head _)) (fun q hq => .tail _ (.tail _ (.tail _ hq))) l1 l2 (fun q hq => hP2 q (.tail _ hq))
              have hz9 : ws.length + ps'.length ≤ sizeLine := by
                rw [sizeLine_eq]
                have := zp_len Z'
                have := hWN.length
                have := len_sizeW W
                omega
              refine s72_extend F' N9 (.tail _ (.head _)) (UpdF.head hne9) hz9 ?_
              intro h9 n9 F9 N9
              k_steps
              refine ⟨_, _, _, _, sizeW (W ++ ts1.zip ts2), rfl, F9, fun q hq => N9 q (by
                  rcases List.mem_cons.mp hq with rfl | hq
                  · exact .head _
                  · exact .tail _ (.tail _ hq)), ?_, some _, some _, ws ++ ps', n9, W ++ ts1.zip ts2, P ++ P', here_there, rfl, fun q hq => hne9 q (.tail _ hq), hWN.append (wp_zip Z' hr jr), tail_same htar ?_, rfl, ?_⟩
              · rw [sizeW_append, sizeW_zip _ _ hlen]; omega
              · rw [all_zip _ _ hlen]
                exact ⟨fun e => by rw [e], fun e => by injection e⟩
              · rw [sizeW_append, sizeW_zip _ _ hlen]; omega
          all_goals exact (Bool.false_ne_true (show false = true from hS)).elim
        case tuple h1 hr =>
          cases Rb
          case tuple j1 jr =>
            dsimp only [SH] at h1 j1
            rename_i al1 vs1 _ ts1 al2 vs2 _ ts2
            have e1 : (Tr.tuple ts1).size = 1 + sizeL ts1 := rfl
            have e2 : (Tr.tuple ts2).size = 1 + sizeL ts2 := rfl
            have hrl := hr.length
            have jrl := jr.length
            have z1 := len_sizeL ts1
            have z2 := len_sizeL ts2
            have hl1 : vs1.length ≤ sizeLine := by rw [sizeLine_eq]; omega
            have hl2 : vs2.length ≤ sizeLine := by rw [sizeLine_eq]; omega
            have hs1 : Src true g al1 vs1.toArray := ⟨_, h1, rfl, _, rfl⟩
            have hs2 : Src true g al2 vs2.toArray := ⟨_, j1, rfl, _, rfl⟩
            k_steps
            · rename_i hQ
              exact hret _ _ _ (Fr.keep (by assumption)) ⟨false, rfl, differ htar (fun e => hQ (by rw [hrl, jrl]; injection e with e; rw [e]))⟩
            · rename_i S' c' _ ps' P' F' N' Z' l1 l2
              have hlen : ts1.length = ts2.length := by omega
              obtain ⟨N9, hne9⟩ := zp_ready (P := P) N' (.tail _ (.head _)) (fun q hq => .tail _ (.tail _ (.tail _ hq))) l1 l2 (fun q hq => hP2 q (.tail _ hq))
              have hz9 : ws.length + ps'.length ≤ sizeLine := by
                rw [sizeLine_eq]
                have := zp_len Z'
                have := hWN.length
                have := len_sizeW W
                omega
              refine s72_extend F' N9 (.tail _ (.head _)) (UpdF.head hne9) hz9 ?_
              intro h9 n9 F9 N9
              k_steps
              refine ⟨_, _, _, _, sizeW (W ++ ts1.zip ts2), rfl, F9, fun q hq => N9 q (by
                  rcases List.mem_cons.mp hq with rfl | hq
                  · exact .head _
                  · exact .tail _ (.tail _ hq)), ?_, some _, some _, ws ++ ps', n9, W ++ ts1.zip ts2, P ++ P', here_there, rfl, fun q hq => hne9 q (.tail _ hq), hWN.append (wp_zip Z' hr jr), tail_same htar ?_, rfl, ?_⟩
              · rw [sizeW_append, sizeW_zip _ _ hlen]; omega
              · rw [all_zip _ _ hlen]
                exact ⟨fun e => by rw [e], fun e => by injection e⟩
              · rw [sizeW_append, sizeW_zip _ _ hlen]; omega
          all_goals exact (Bool.false_ne_true (show false = true from hS)).elim
        all_goals exact (Bool.false_ne_true (show false = true from hQ)).elim
      · rename_i hS _ hN D0 _ F' N' lD _ hQ
        have hab := leaf_same hS hN hQ
        refine ⟨_, _, _, _, sizeW W, rfl, F', fun q hq => N' q (by
            rcases List.mem_cons.mp hq with rfl | hq
            · exact .tail _ (.head _)
            · exact .tail _ (.tail _ (.tail _ hq))), ?_, some _, some _, ws, _, W, P, here_there, rfl, fun q hq => hP2 q (.tail _ hq), hWN, ?_, rfl, ?_⟩
        · omega
        · rw [← htar]
          simp only [List.mem_append, List.mem_singleton]
          exact ⟨fun k p hp => hp.elim (k p) fun e => by rw [e]; exact hab, fun k p hp => k p (.inl hp)⟩
        · omega
      · rename_i hS
        exact hret _ _ _ (Fr.keep (by assumption)) ⟨false, rfl, differ htar (kind_differ hS)⟩
end

end S72

namespace S72
theorem fill_S72Comp (P : Params) : hd.heap_39 P = hd.heap_39 P ∧ Challenge.rw_sz0072_01 = Challenge.rw_sz0072_01 := by
  w_top off
  k_fill
  exact ⟨rfl, rfl⟩
section
variable {prog : Program} {w : World} {A : Around} {R : Result → Shared → Prop} {s : Shared} {elt t1 it1 t2 it2 : Expr} {scope : Scope} {pos : Pos} {it acc : Value} {env : Env}

/-- a list comprehension of two clauses without tests -/
abbrev two (elt t1 it1 t2 it2 : Expr) (scope : Scope) (pos : Pos) : Expr := .ListComp elt [⟨t1, it1, [], 0⟩, ⟨t2, it2, [], 0⟩] scope pos

theorem two_loop0 (I : Nat → Shared → Prop)
    (turn : ∀ n s, I n s → wpAny (model prog w) A (pyNext it) (fun r s₁ => match r with
      | none => R (.ok .next) s₁
      | some v => wpAny (model prog w) A (assign t1 env v) (fun _ s₂ => wpAny (model prog w) A (eval it2 env) (fun x s₃ => wpAny (model prog w) A (pyIter x) (fun i s₄ =>
          codeAny (model prog w) A (.compStart (two elt t1 it1 t2 it2 scope pos) 1 i acc env) (fun r s' => match r with | .ok _ => ∃ m, m < n ∧ I m s' | .error _ => False) s₄) (fun _ _ => False) s₃) (fun _ _ => False) s₂) (fun _ _ => False) s₁) (fun _ _ => False) s)
    (n : Nat) (h : I n s) (ht : ∀ v, letOwnedTupleGo t1 it v = pure () := by intro _; rfl) (hf : ∀ x, foldedSetIterable it2 env x = pure x := by intro _; rfl) :
    codeAny (model prog w) A (.compLoop (two elt t1 it1 t2 it2 scope pos) 0 it acc env) R s := by
  refine codeAny_loop rfl I (fun n s hI => ?_) n h
  show wpAny _ A ((compTurn (two elt t1 it1 t2 it2 scope pos) 0 it acc env).onRaise (fun x => do noteFrame x env; theTreesLotGoes x)) _ _ s
  refine wpAny_noted (wpAny_noRaise ?_)
  unfold compTurn
  refine wpAny_bind (m := standAt it1.pos) (wpAny_standAt (wpAny_bind (m := pyNext it) (wpAny_mono (turn n s hI) (fun r s₁ h₁ => ?_) fun _ _ h' => h')))
  cases r with
  | none => exact wpAny_pure h₁
  | some v =>
    refine wpAny_bind (m := letOwnedTupleGo t1 it v) (wpAny_of_eq (ht v) ?_)
    refine wpAny_bind (m := assign t1 env v) (wpAny_mono h₁ (fun _ s₂ h₂ => ?_) fun _ _ h' => h')
    refine wpAny_bind (m := forIn ([] : List Expr) true _) (wpAny_pure ?_)
    refine wpAny_ite_true rfl ?_
    refine wpAny_bind (m := eval it2 env) (wpAny_mono h₂ (fun x s₃ h₃ => ?_) fun _ _ h' => h')
    refine wpAny_bind (m := standAt it2.pos) (wpAny_standAt ?_)
    refine wpAny_ite_false rfl ?_
    refine wpAny_bind (wpAny_of_eq (hf x) ?_)
    refine wpAny_bind (m := holding [x] _) (wpAny_holding (wpAny_ite_false rfl (wpAny_mono h₃ (fun i s₄ h₄ => ?_) fun _ _ h' => h')))
    refine wpAny_bind (m := runOwn (.compStart (two elt t1 it1 t2 it2 scope pos) 1 i acc env) env) (wpAny_runOwn (codeAny_mono h₄ fun r s' hr => ?_))
    cases r with
    | ok f => exact wpAny_pure ⟨rfl, hr⟩
    | error e => exact hr.elim

theorem two_loop1 (I : Nat → Shared → Prop)
    (turn : ∀ n s, I n s → wpAny (model prog w) A (pyNext it) (fun r s₁ => match r with
      | none => R (.ok .next) s₁
      | some v => wpAny (model prog w) A (assign t2 env v) (fun _ s₂ => wpAny (model prog w) A (eval elt env) (fun x s₃ =>
          wpAny (model prog w) A (call (.builtin "list.append") [acc, x]) (fun _ s₄ => ∃ m, m < n ∧ I m s₄) (fun _ _ => False) s₃) (fun _ _ => False) s₂) (fun _ _ => False) s₁) (fun _ _ => False) s)
    (n : Nat) (h : I n s) (ht : ∀ v, letOwnedTupleGo t2 it v = pure () := by intro _; rfl) :
    codeAny (model prog w) A (.compLoop (two elt t1 it1 t2 it2 scope pos) 1 it acc env) R s := by
  refine codeAny_loop rfl I (fun n s hI => ?_) n h
  show wpAny _ A ((compTurn (two elt t1 it1 t2 it2 scope pos) 1 it acc env).onRaise (fun x => do noteFrame x env; theTreesLotGoes x)) _ _ s
  refine wpAny_noted (wpAny_noRaise ?_)
  unfold compTurn
  refine wpAny_bind (m := standAt it2.pos) (wpAny_standAt (wpAny_bind (m := pyNext it) (wpAny_mono (turn n s hI) (fun r s₁ h₁ => ?_) fun _ _ h' => h')))
  cases r with
  | none => exact wpAny_pure h₁
  | some v =>
    refine wpAny_bind (m := letOwnedTupleGo t2 it v) (wpAny_of_eq (ht v) ?_)
    refine wpAny_bind (m := assign t2 env v) (wpAny_mono h₁ (fun _ s₂ h₂ => ?_) fun _ _ h' => h')
    refine wpAny_bind (m := forIn ([] : List Expr) true _) (wpAny_pure ?_)
    refine wpAny_ite_true rfl ?_
    refine wpAny_bind (wpAny_bind (m := eval elt env) (wpAny_mono h₂ (fun x s₃ h₃ => ?_) fun _ _ h' => h'))
    exact wpAny_bind (m := call (.builtin "list.append") [acc, x]) (wpAny_mono h₃ (fun _ s₄ h₄ => wpAny_pure (wpAny_pure ⟨rfl, h₄⟩)) fun _ _ h' => h')

theorem two_start (d : Nat) (hd : d < 2)
    (h0 : codeAny (model prog w) A (.compLoop (two elt t1 it1 t2 it2 scope pos) d it acc env) R s)
    (h : wpAny (model prog w) A (pyIter it) (fun it' s' => codeAny (model prog w) A (.compLoop (two elt t1 it1 t2 it2 scope pos) d it' acc env) R s') (fun _ _ => False) s) :
    codeAny (model prog w) A (.compStart (two elt t1 it1 t2 it2 scope pos) d it acc env) R s := by
  refine codeAny_of_tree ?_
  show wpAny _ A ((compStart (two elt t1 it1 t2 it2 scope pos) d it acc env).onRaise (fun x => do noteFrame x env; standAt theWindowsPlace)) _ _ s
  refine wpAny_notedAt (wpAny_noRaise ?_)
  match d, hd with
  | 0, _ =>
    show wpAny _ _ (ask >>= _) _ _ s
    refine wpAny_bind (wpAny_askSetting (wpAny_ite ?_))
    split
    · exact wpAny_bind (wpAny_pure (wpAny_pure (And.intro rfl h0)))
    · exact wpAny_bind (wpAny_rule (wpAny_bind (wpAny_standAt (wpAny_bind (wpAny_mono h (fun it' s' h' => wpAny_pure (And.intro rfl h')) fun _ _ x => x)))))
  | 1, _ =>
    show wpAny _ _ (ask >>= _) _ _ s
    refine wpAny_bind (wpAny_askSetting (wpAny_ite ?_))
    split
    · exact wpAny_bind (wpAny_pure (wpAny_pure (And.intro rfl h0)))
    · exact wpAny_bind (wpAny_rule (wpAny_bind (wpAny_standAt (wpAny_bind (wpAny_mono h (fun it' s' h' => wpAny_pure (And.intro rfl h')) fun _ _ x => x)))))
end
end S72

namespace S72
theorem fill_S72Lvl (P : Params) : hd.heap_39 P = hd.heap_39 P ∧ Challenge.rw_sz0072_01 = Challenge.rw_sz0072_01 := by
  w_top off
  k_fill
  exact ⟨rfl, rfl⟩

/-- the next level: the nodes right within -/
def nextL : List Tr → List Tr
  | [] => []
  | .node _ us :: ts => nodesL us ++ nextL ts
  | _ :: ts => nextL ts
theorem nextL_append : ∀ ts us : List Tr, nextL (ts ++ us) = nextL ts ++ nextL us
  | [], _ => rfl
  | t :: ts, us => by
    cases t <;> simp only [List.cons_append, nextL, nextL_append ts us, List.append_assoc]

abbrev lvlScope : Scope := { kind := .function, names := [(Str.ofString ".0", .local), (Str.ofString "one", .local), (Str.ofString "child", .local), (Str.ofString "children", .globalImplicit)], isGenerator := false, isCoroutine := false }
abbrev lvlE (p1 p2 p3 p4 p5 p6 p7 pos : Pos) : Expr := two (.Name (Str.ofString "child") p1) (.Name (Str.ofString "one") p2) (.Name (Str.ofString "level") p3) (.Name (Str.ofString "child") p4) (.Call (.Name (Str.ofString "children") p5) [.Name (Str.ofString "one") p6] [] p7) lvlScope pos

section
variable {prog : Program} {w : World} {A : Around} {R : Result → Shared → Prop} {s : Shared} {p1 p2 p3 p4 p5 p6 p7 pos : Pos}

theorem lvl_inner {cenv : Env} {I la D : Addr} {kvs us : List Value} {m : Str → Option Value} {n c : Nat} (hh : A.handled = none) (hs : cenv.scope = lvlScope)
    (ne : la ≠ I ∧ la ≠ D ∧ la ≠ cenv.locals ∧ I ≠ D ∧ I ≠ cenv.locals ∧ D ≠ cenv.locals)
    (hit : s.heap.IsListIter I la 0) (hl : s.heap.get? la = some (listOf kvs.toArray n)) (hD : s.heap.get? D = some (listOf us.toArray c)) (hn : s.heap.Ns cenv.locals m) (hz : us.length + kvs.length ≤ sizeLine)
    (k : ∀ h' tk' m' c', h'.get? D = some (listOf (us ++ kvs).toArray c') → h'.Ns cenv.locals m' → (∀ b o, b ≠ I → b ≠ D → b ≠ cenv.locals → s.heap.get? b = some o → h'.get? b = some o) → R (.ok .next) { s with heap := h', toks := tk' }) :
    codeAny (model prog w) A (.compLoop (lvlE p1 p2 p3 p4 p5 p6 p7 pos) 1 (.ref I) (.ref D) cenv) R s := by
  obtain ⟨n1, n2, n3, n4, n5, n6⟩ := ne
  have hx : cenv.kindOf (Str.ofString "child") = some .local := by rw [Env.kindOf, hs]; rfl
  have hkf : cenv.scope.kind = .function := by rw [hs]
  refine two_loop1 (fun q s' => ∃ h' tk m' j c', s' = { s with heap := h', toks := tk } ∧ h'.IsListIter I la j ∧ h'.get? D = some (listOf (us ++ kvs.take j).toArray c') ∧ h'.Ns cenv.locals m' ∧
    (∀ b o, b ≠ I → b ≠ D → b ≠ cenv.locals → s.heap.get? b = some o → h'.get? b = some o) ∧ j ≤ kvs.length ∧ q = kvs.length - j) ?_ kvs.length
    ⟨s.heap, s.toks, m, 0, c, rfl, hit, by simpa using hD, hn, fun _ _ _ _ _ e => e, Nat.zero_le _, rfl⟩
  rintro q s' ⟨h, tk, m', j, c', rfl, hit', hD', hn', keep, hj, rfl⟩
  have hl' : h.IsList la kvs.toArray := ⟨_, keep _ _ n1 n2 n3 hl, rfl, _, rfl⟩
  by_cases hlt : j < kvs.length
  · refine wpAny_pyNext_list_item hit' hl' (x := kvs[j]) (by simp [hlt]) fun h₁ hit₁ hs₁ => ?_
    refine wpAny_assign_Name (wpAny_storeName_local hx (hn'.sameBut hs₁ n5.symm) (fun h₂ hn₂ hs₂ => ?_) (by rw [hs]; rfl))
    refine wpAny_Name (wpAny_loadName_local hkf hx hn₂ (v := kvs[j]) (by simp) ?_) (by decide)
    have hD₂ : h₂.get? D = some (listOf (us ++ kvs.take j).toArray c') := hs₂.extBut _ _ n6 (hs₁.extBut _ _ n4.symm hD')
    refine append_at hD₂ (fun h₃ hs₃ hD₃ => ?_) ?_
    · refine ⟨kvs.length - (j + 1), by omega, h₃, _, _, j + 1, c' + 1, rfl, ?_, ?_, hn₂.sameBut hs₃ n6.symm, fun b o q1 q2 q3 e => hs₃.extBut _ _ q2 (hs₂.extBut _ _ q3 (hs₁.extBut _ _ q1 (keep b o q1 q2 q3 e))), hlt, rfl⟩
      · exact hit₁.at fun o e => hs₃.extBut _ _ n4 (hs₂.extBut _ _ n5 e)
      · rw [hD₃, List.take_add_one, List.getElem?_eq_getElem hlt]
        simp
    · simp only [List.size_toArray, List.length_append, List.length_take]
      omega
  · have he : j = kvs.length := by omega
    subst he
    refine wpAny_pyNext_list_end hh hit' hl' (by simp) fun h₁ ext => ?_
    refine k h₁ tk m' c' (ext _ _ n4.symm (by simpa using hD')) (hn'.at' fun o e => ext _ _ n5.symm e) fun b o q1 q2 q3 e => ext _ _ q1 (keep b o q1 q2 q3 e)
end

section
variable {w : World} {mean : ExcName → Option Value} {mg mb : Str → Option Value} {dp un : Nat} {gd : Option (List Code)} {cn : Str} {cs : Scope} {L a : Addr} {ccd : Value} {outer : List Env} {A₀ : Around} {base g : Heap} {m : Str → Option Value}
  {R : Result → Shared → Prop} {s : Shared} {p1 p2 p3 p4 p5 p6 p7 pos : Pos}

theorem sizeL_kids : ∀ ts : List Tr, sizeL (nodesL ts) ≤ sizeL ts
  | [] => Nat.le_refl _
  | t :: ts => by
    have h1 := sizeL_kids ts
    simp only [nodesL, sizeL_append, sizeL]
    have h2 : sizeL t.nodes ≤ t.size := by
      cases t with
      | node k us => simp only [Tr.nodes, sizeL]; omega
      | list us => have := sizeL_kids us; simp only [Tr.nodes, Tr.size]; omega
      | tuple us => have := sizeL_kids us; simp only [Tr.nodes, Tr.size]; omega
      | _ => simp only [Tr.nodes, sizeL]; omega
    omega
theorem sizeL_next : ∀ ts : List Tr, sizeL (nextL ts) ≤ sizeL ts
  | [] => Nat.le_refl _
  | t :: ts => by
    have h1 := sizeL_next ts
    cases t with
    | node k us => have := sizeL_kids us; simp only [nextL, sizeL_append, sizeL, Tr.size]; omega
    | _ => simp only [nextL, sizeL]; omega
theorem size_mem {t : Tr} : ∀ {ts : List Tr}, t ∈ ts → t.size ≤ sizeL ts
  | x :: ts, h => by
    simp only [sizeL]
    rcases List.mem_cons.mp h with rfl | h
    · omega
    · have := size_mem h
      omega
theorem fr_ext {g h h' : Heap} {L I : Addr} {m : Str → Option Value} (F : Fr g L h m) (x : Heap.ExtBut I h h') (n : I ≠ L) (gI : g.get? I = none) : Fr g L h' m := by
  obtain ⟨oL, es, ep, eL, rL⟩ := F.ns
  refine ⟨⟨oL, es, ep, x _ _ n.symm eL, rL⟩, fun b o e => x _ _ (fun q => ?_) (F.keep b o e), F.above⟩
  rw [q, gI] at e; cases e
theorem repL_get {S : Addr → Obj → Prop} : ∀ {vs : List Value} {ts : List Tr} {j : Nat} {v : Value}, RepL w S vs ts → vs[j]? = some v → ∃ t, ts[j]? = some t ∧ Rep w S v t
  | _, _, 0, _, .cons r _, e => by cases e; exact ⟨_, rfl, r⟩
  | _, _, j + 1, _, .cons _ q, e => repL_get (j := j) q (by simpa using e)

theorem lvl_outer {cenv : Env} {I lv D : Addr} {vs : List Value} {ts : List Tr} {m₂ : Str → Option Value} {n c : Nat} (B : Below A₀ base outer g) (F : Fr g L s.heap m) (X : (hd.heap_39 w.params).In g) (T : Top hd.view_39 (looseW hd.view_39 []) mean mg mb g) (hk : cs.kind = .function)
    (hd : dp + 9 < recursionLimit) (hu : un + 60 < cLine) (hs : cenv.scope = lvlScope) (hgl : cenv.globals = mainGlobals)
    (nlv : lv ≠ L) (ne : lv ≠ I ∧ lv ≠ D ∧ lv ≠ cenv.locals ∧ I ≠ D ∧ I ≠ cenv.locals ∧ D ≠ cenv.locals) (nL : L ≠ I ∧ L ≠ D ∧ L ≠ cenv.locals) (ng : g.get? I = none ∧ g.get? D = none ∧ g.get? cenv.locals = none)
    (hit : s.heap.IsListIter I lv 0) (hl : s.heap.get? lv = some (listOf vs.toArray n)) (hD : s.heap.get? D = some (listOf #[] c)) (hn : s.heap.Ns cenv.locals m₂)
    (Rv : RepL w (SH g) vs ts) (hnd : ∀ t ∈ ts, t.isNode = true) (hz : sizeL ts ≤ 1000000)
    (k : ∀ h' tk' m' us c', h'.get? D = some (listOf (List.toArray us) c') → h'.Ns cenv.locals m' → RepL w (SH g) us (nextL ts) → Fr g L h' m → (∀ b o, b ≠ L → b ≠ I → b ≠ D → b ≠ cenv.locals → s.heap.get? b = some o → h'.get? b = some o) → R (.ok .next) { s with heap := h', toks := tk' }) :
    codeAny (model Challenge.rw_sz0072_01.row.prog w) (ktrTop dp un gd cn cs L a ccd [] outer) (.compLoop (lvlE p1 p2 p3 p4 p5 p6 p7 pos) 0 (.ref I) (.ref D) cenv) R s := by
  obtain ⟨n1, n2, n3, n4, n5, n6⟩ := ne
  have hx : cenv.kindOf (Str.ofString "one") = some .local := by rw [Env.kindOf, hs]; rfl
  have hxg : cenv.kindOf (Str.ofString "children") = some .globalImplicit := by rw [Env.kindOf, hs]; rfl
  have hkf : cenv.scope.kind = .function := by rw [hs]
  have hlen := Rv.length
  refine two_loop0 (fun q s' => ∃ h' tk m' j us c', s' = { s with heap := h', toks := tk } ∧ h'.IsListIter I lv j ∧ h'.get? D = some (listOf (List.toArray us) c') ∧ h'.Ns cenv.locals m' ∧ RepL w (SH g) us (nextL (ts.take j)) ∧
    Fr g L h' m ∧ (∀ b o, b ≠ L → b ≠ I → b ≠ D → b ≠ cenv.locals → s.heap.get? b = some o → h'.get? b = some o) ∧ j ≤ vs.length ∧ q = vs.length - j) ?_ vs.length
    ⟨s.heap, s.toks, m₂, 0, [], c, rfl, hit, hD, hn, .nil, F, fun _ _ _ _ _ _ e => e, Nat.zero_le _, rfl⟩
  rintro q s' ⟨h, tk, m', j, us, c', rfl, hit', hD', hn', Ru, F', keep, hj, rfl⟩
  have hl' : h.IsList lv vs.toArray := ⟨_, keep _ _ nlv n1 n2 n3 hl, rfl, _, rfl⟩
  by_cases hlt : j < vs.length
  · obtain ⟨t, htj, Rt⟩ := repL_get Rv (List.getElem?_eq_getElem hlt)
    refine wpAny_pyNext_list_item hit' hl' (x := vs[j]) (by simp [hlt]) fun h₁ hit₁ hs₁ => ?_
    refine wpAny_assign_Name (wpAny_storeName_local hx (hn'.sameBut hs₁ n5.symm) (fun h₂ hn₂ hs₂ => ?_) (by rw [hs]; rfl))
    have keep₂ : ∀ b o, b ≠ L → b ≠ I → b ≠ D → b ≠ cenv.locals → s.heap.get? b = some o → h₂.get? b = some o := fun b o q0 q1 q2 q3 e => hs₂.extBut _ _ q3 (hs₁.extBut _ _ q1 (keep b o q0 q1 q2 q3 e))
    have F₂ : Fr g L h₂ m := (F'.change hs₁ nL.1.symm ng.1).change hs₂ nL.2.2.symm ng.2.2
    have hD₂ : h₂.get? D = some (listOf us.toArray c') := hs₂.extBut _ _ n6 (hs₁.extBut _ _ n4.symm hD')
    have hit₂ : h₂.IsListIter I lv (j + 1) := hit₁.at fun o e => hs₂.extBut _ _ n5 e
    have hnode := hnd t (List.mem_of_getElem? htj)
    cases t with
    | node kd uts =>
      have hzu : sizeL uts ≤ 1000000 := by
        have h1 := size_mem (List.mem_of_getElem? htj)
        have h3 : (Tr.node kd uts).size = 1 + sizeL uts := rfl
        omega
      refine Call_ (nameG_K F₂ X (topRead_of T) (by k_is) ?_ hgl hkf hxg (by decide))
      refine callWith_K (X.keeps F₂.keep) (by k_is) (args_cons (wpAny_Name (wpAny_loadName_local hkf hx hn₂ (v := vs[j]) (by simp) ?_) (by decide)))
      refine args_nil ⟨X.keeps F₂.keep, ?_⟩
      refine kids_does (S := SH g) vs[j] kd uts dp un gd cn cs L a ccd [] outer A₀ base g m _ _ _ B F₂ X T hk hd hu ⟨Rt, fun _ _ e => F₂.keep _ _ e, hzu⟩ fun r h₃ tk₃ F₃ st P => ?_
      obtain ⟨la, kvs, nl, rfl, hla, hfr, Rk⟩ := P
      obtain ⟨oi, hoi, _⟩ := id hit₂
      obtain ⟨oc, _, _, hoc, _⟩ := id hn₂
      have ld : ∀ {b : Addr} {o : Obj}, h₂.get? b = some o → la ≠ b := fun e q => by rw [q] at hfr; rw [hfr] at e; cases e
      have hlv₂ : h₂.get? lv = some (listOf vs.toArray n) := keep₂ _ _ nlv n1 n2 n3 hl
      have hD₃ := st _ _ nL.2.1.symm hD₂
      have hit₃ : h₃.IsListIter I lv (j + 1) := hit₂.at fun o e => st _ _ nL.1.symm e
      have hn₃ : h₃.Ns cenv.locals _ := hn₂.at' fun o e => st _ _ nL.2.2.symm e
      -- the second clause's iterator
      refine wpAny_pyIter_list (items := kvs.toArray) ⟨_, hla, rfl, _, rfl⟩ ?_
      have up : ∀ b o, h₃.get? b = some o → (h₃.push { cls := .type "list_iterator", data := .fields #[.ref la, .int 0 0] }).get? b = some o := fun b o e => Heap.get?_push_of_some _ e
      have new : ∀ {b : Addr} {o : Obj}, h₃.get? b = some o → b ≠ h₃.objs.size := fun e => Nat.ne_of_lt (Heap.lt_size e)
      have hkz : us.length + kvs.length ≤ sizeLine := by
        rw [sizeLine_eq]
        have q1 := Ru.length
        have q2 := Rk.length
        have q3 := len_sizeL (nextL (ts.take j))
        have q4 := sizeL_next (ts.take j)
        have q5 := len_sizeL (nodesL uts)
        have q6 := sizeL_kids uts
        have q7 : sizeL (ts.take j) + sizeL (ts.drop j) = sizeL ts := by rw [← sizeL_append, List.take_append_drop]
        omega
      have inner : ∀ {J : Nat → Shared → Prop} {nn : Nat}, (∀ h' tk' m' c', h'.get? D = some (listOf (us ++ kvs).toArray c') → h'.Ns cenv.locals m' → (∀ b o, b ≠ h₃.objs.size → b ≠ D → b ≠ cenv.locals → h₃.get? b = some o → h'.get? b = some o) →
          ∃ m, m < nn ∧ J m { s with heap := h', toks := tk' }) →
          codeAny (model Challenge.rw_sz0072_01.row.prog w) (ktrTop dp un gd cn cs L a ccd [] outer) (.compLoop (lvlE p1 p2 p3 p4 p5 p6 p7 pos) 1 (.ref h₃.objs.size) (.ref D) cenv) (fun r s' => match r with | .ok _ => ∃ m, m < nn ∧ J m s' | .error _ => False)
            { s with heap := h₃.push { cls := .type "list_iterator", data := .fields #[.ref la, .int 0 0] }, toks := tk₃ } := fun hJ =>
        lvl_inner (m := _) rfl hs ⟨new hla, ld hD₂, ld hoc, (new hD₃).symm, (new (st _ _ nL.2.2.symm hoc)).symm, n6⟩ ⟨_, Heap.get?_push_size _ rfl, rfl, rfl⟩ (up _ _ hla) (up _ _ hD₃) (hn₃.at' fun o e => up _ o e) hkz
          fun h' tk' m' c' q1 q2 q3 => hJ h' tk' m' c' q1 q2 fun b o z1 z2 z3 e => q3 b o z1 z2 z3 (up _ _ e)
      have both := inner (J := fun q s' => ∃ h' tk m' j us c', s' = { s with heap := h', toks := tk } ∧ h'.IsListIter I lv j ∧ h'.get? D = some (listOf (List.toArray us) c') ∧ h'.Ns cenv.locals m' ∧ RepL w (SH g) us (nextL (ts.take j)) ∧
        Fr g L h' m ∧ (∀ b o, b ≠ L → b ≠ I → b ≠ D → b ≠ cenv.locals → s.heap.get? b = some o → h'.get? b = some o) ∧ j ≤ vs.length ∧ q = vs.length - j) (nn := vs.length - j) fun h' tk' m' c' q1 q2 q3 => by
          refine ⟨vs.length - (j + 1), by omega, h', tk', m', j + 1, us ++ kvs, c', rfl, hit₃.at fun o e => q3 _ _ (new e) n4 n5 e, q1, q2, ?_, ?_, fun b o zL z1 z2 z3 e => ?_, hlt, rfl⟩
          · rw [List.take_add_one, htj, nextL_append]
            refine Ru.append ?_
            simpa [nextL] using Rk
          · obtain ⟨oL, es, ep, eL, rL⟩ := F₃.ns
            refine ⟨⟨oL, es, ep, q3 _ _ (new eL) nL.2.1 nL.2.2 eL, rL⟩, fun b o e => ?_, F₃.above⟩
            have e₃ := F₃.keep b o e
            refine q3 b o (new e₃) (fun q => ?_) (fun q => ?_) e₃
            · rw [q, ng.2.1] at e; cases e
            · rw [q, ng.2.2] at e; cases e
          · have e₃ := st b o zL (keep₂ b o zL z1 z2 z3 e)
            exact q3 b o (new e₃) z2 z3 e₃
      exact two_start 1 (by decide) both (wpAny_pyIter_listiter ⟨_, Heap.get?_push_size _ rfl, rfl, rfl⟩ both)
    | _ => cases hnode
  · have he : j = vs.length := by omega
    subst he
    refine wpAny_pyNext_list_end rfl hit' hl' (by simp) fun h₁ ext => ?_
    rw [List.take_of_length_le (by omega)] at Ru
    exact k h₁ tk m' us c' (ext _ _ n4.symm hD') (hn'.at' fun o e => ext _ _ n5.symm e) Ru (fr_ext F' ext nL.1.symm ng.1) fun b o q0 q1 q2 q3 e => ext _ _ q1 (keep b o q0 q1 q2 q3 e)

theorem lvl_assign {py spos : Pos} {lv : Addr} {vs : List Value} {ts : List Tr} {n : Nat} {news : List (Addr × Obj)} {Q : Flow → Shared → Prop} {E : Value → Shared → Prop} (hsw : swapsWith (lvlE p1 p2 p3 p4 p5 p6 p7 pos) (some (.Name (Str.ofString "level") py)) spos.line (envOf cn cs L a ccd) = pure true) (B : Below A₀ base outer g) (F : Fr g L s.heap m) (N : News g L s.heap news) (X : (hd.heap_39 w.params).In g) (T : Top hd.view_39 (looseW hd.view_39 []) mean mg mb g)
    (hk : cs.kind = .function) (hlk : (envOf cn cs L a ccd).kindOf (Str.ofString "level") = some .local) (hm : m (Str.ofString "level") = some (.ref lv)) (hlv : (lv, listOf vs.toArray n) ∈ news)
    (hd : dp + 9 < recursionLimit) (hu : un + 60 < cLine) (Rv : RepL w (SH g) vs ts) (hnd : ∀ t ∈ ts, t.isNode = true) (hz : sizeL ts ≤ 1000000)
    (k : ∀ D us c h' tk', Fr g L h' (fun y => if y = Str.ofString "level" then some (.ref D) else m y) → News g L h' ((D, listOf (List.toArray us) c) :: news) → (∀ q ∈ news, q.1 < D) → RepL w (SH g) us (nextL ts) → Q .next { s with heap := h', toks := tk' }) :
    wpAny (model Challenge.rw_sz0072_01.row.prog w) (ktrTop dp un gd cn cs L a ccd [] outer) (exec (.Assign [.Name (Str.ofString "level") py] (lvlE p1 p2 p3 p4 p5 p6 p7 pos) spos) (envOf cn cs L a ccd)) Q E s := by
  have hl := (N _ hlv).1
  obtain ⟨oL, esL, epL, eL, rL⟩ := F.ns
  rw [exec_Assign_Name_used _ _ _ _ hsw]
  refine wpAny_bind (wpAny_standAt (wpAny_bind ?_))
  show wpAny _ _ (do let _ ← comprehension (lvlE p1 p2 p3 p4 p5 p6 p7 pos) lvlScope (envOf cn cs L a ccd) _ (newList []) false (eval (.Name (Str.ofString "level") p3) (envOf cn cs L a ccd)) (some (assign (.Name (Str.ofString "level") py) (envOf cn cs L a ccd)))) _ _ s
  refine wpAny_bind (wpAny_mono (wpAny_comprehension_use (Q := fun _ s' => Q .next s') rfl (fun _ => rfl) (by decide) rfl (by decide) (ld F hm ?_ hk hlk)) (fun _ s' hq => wpAny_pure (wpAny_pure hq)) fun _ _ e => e)
  refine wpAny_pyIter_list (items := vs.toArray) ⟨_, hl, rfl, _, rfl⟩ ?_
  refine wpAny_newObj_type (wpAny_newFunctionEnv (by decide) (by intro y hy; simp at hy) (fun h₁ hns hsb => ?_) rfl) (by size_fits)
  dsimp only at hns hsb ⊢
  generalize hA' : s.heap.push { cls := .type "list_iterator", data := .fields #[.ref lv, .int 0 0] } = hA at hns hsb ⊢
  have sA : hA.objs.size = s.heap.objs.size + 1 := by rw [← hA', Heap.size_push]
  have aI : hA.get? s.heap.objs.size = some { cls := .type "list_iterator", data := .fields #[.ref lv, .int 0 0] } := by rw [← hA']; exact Heap.get?_push_size _ rfl
  have aU : ∀ b o, s.heap.get? b = some o → hA.get? b = some o := fun b o e => by rw [← hA']; exact Heap.get?_push_of_some _ e
  clear hA'
  generalize hB' : hA.push { cls := .type "list", data := .seq (List.toArray []) } = hB at hns hsb ⊢
  have sB : hB.objs.size = hA.objs.size + 1 := by rw [← hB', Heap.size_push]
  have bD : hB.get? hA.objs.size = some { cls := .type "list", data := .seq #[] } := by rw [← hB']; exact Heap.get?_push_size _ rfl
  have bU : ∀ b o, hA.get? b = some o → hB.get? b = some o := fun b o e => by rw [← hB']; exact Heap.get?_push_of_some _ e
  clear hB'
  have lt0 : ∀ {b : Addr} {o : Obj}, s.heap.get? b = some o → b < s.heap.objs.size := fun e => Heap.lt_size e
  have cU : ∀ b o, b ≠ hB.objs.size → hB.get? b = some o → h₁.get? b = some o := fun b o q e => hsb.extBut b o q (Heap.get?_push_of_some _ e)
  have q1 : s.heap.objs.size ≠ hA.objs.size := by rw [sA]; exact Nat.ne_of_lt (Nat.lt_succ_self _)
  have q2 : s.heap.objs.size ≠ hB.objs.size := by rw [sB, sA]; exact Nat.ne_of_lt (Nat.lt_succ_of_lt (Nat.lt_succ_self _))
  have q3 : hA.objs.size ≠ hB.objs.size := by rw [sB]; exact Nat.ne_of_lt (Nat.lt_succ_self _)
  have far3 : ∀ {b : Addr} {o : Obj}, s.heap.get? b = some o → b ≠ s.heap.objs.size ∧ b ≠ hA.objs.size ∧ b ≠ hB.objs.size := fun e => by
    have := lt0 e
    refine ⟨Nat.ne_of_lt this, ?_, ?_⟩
    · rw [sA]; exact Nat.ne_of_lt (Nat.lt_succ_of_lt this)
    · rw [sB, sA]; exact Nat.ne_of_lt (Nat.lt_succ_of_lt (Nat.lt_succ_of_lt this))
  have up : ∀ b o, s.heap.get? b = some o → h₁.get? b = some o := fun b o e => cU b o (far3 e).2.2 (bU _ _ (aU _ _ e))
  have gN : ∀ {b : Addr}, s.heap.objs.size ≤ b → g.get? b = none := fun {b} q => by
    cases r : g.get? b with
    | none => rfl
    | some o => exact absurd (lt0 (F.keep _ _ r)) (Nat.not_lt.mpr q)
  have hit : h₁.IsListIter s.heap.objs.size lv 0 := ⟨_, cU _ _ q2 (bU _ _ aI), rfl, rfl⟩
  refine two_start 0 (by decide) ?_ (wpAny_pyIter_listiter hit ?_)
  all_goals (
    refine lvl_outer (lv := lv) (vs := vs) (n := n) (c := 0) B (fr_stays F up) X T hk hd hu rfl rfl ((N _ hlv).2.1) ⟨(far3 hl).1, (far3 hl).2.1, (far3 hl).2.2, q1, q2, q3⟩ (far3 eL)
      ⟨gN (Nat.le_refl _), gN (by rw [sA]; exact Nat.le_succ _), gN (by rw [sB, sA]; exact Nat.le_succ_of_le (Nat.le_succ _))⟩ hit (up _ _ hl) (cU _ _ q3 bD) hns Rv hnd hz fun h' tk' m' us c' r1 r2 r3 r4 r5 => ?_
    have nLC := (far3 eL).2.2
    refine wpAny_assign_Name (wpAny_storeName_local hlk r4.ns (fun h₂ hn₂ hs₂ => ?_) (by show (cs.kind == .class || (cs.kind == .module && L != mainGlobals)) = false; rw [hk]; rfl))
    refine ⟨m', r2.sameBut hs₂ nLC.symm, fun h'' hs'' => ?_⟩
    have F₉ : Fr g L h'' _ := (r4.set hn₂ hs₂).change hs'' nLC.symm (gN (by rw [sB, sA]; exact Nat.le_succ_of_le (Nat.le_succ _)))
    refine k _ us c' h'' _ F₉ (fun p hp => ?_) (fun q hq => by rw [sA]; exact Nat.lt_succ_of_lt (lt0 (N q hq).1)) r3
    rcases List.mem_cons.mp hp with rfl | hp
    · exact ⟨(hs''.2 _ q3).trans ((hs₂.2 _ (far3 eL).2.1.symm).trans r1), (far3 eL).2.1.symm, gN (by rw [sA]; exact Nat.le_succ _)⟩
    · have e0 := (N p hp).1
      obtain ⟨z1, z2, z3⟩ := far3 e0
      exact ⟨(hs''.2 _ z3).trans ((hs₂.2 _ (N p hp).2.1).trans (r5 _ _ (N p hp).2.1 z1 z2 z3 (up _ _ e0))), (N p hp).2⟩
    )
end
end S72

namespace S72
theorem fill_S72High (P : Params) : hd.heap_39 P = hd.heap_39 P ∧ Challenge.rw_sz0072_01 = Challenge.rw_sz0072_01 := by
  w_top off
  k_fill
  exact ⟨rfl, rfl⟩
local macro_rules | `(tactic| k_inst) => `(tactic| (refine' s72_inst ?F ?h1 ?h2; (case F => k_asm); (case h1 => assumption); (case h2 => assumption)))
local macro_rules | `(tactic| kit_at) => `(tactic| (refine' s72_at ?F ?h1 ?c; (case F => k_asm); (case h1 => assumption); (case c => exact rfl)))
local macro_rules | `(tactic| k_room) => `(tactic| ktr_room)
local macro_rules | `(tactic| walk_at "call builtin:isinstance") => `(tactic| (k_here; k_dflt (first
  | (refine' isi_Node ?R ?F ?X ?_; (case R => with_reducible assumption); (case F => k_asm); (case X => k_asm); k_whole)
  | (refine' isi_tuple ?R ?F ?X ?_; (case R => with_reducible assumption); (case F => k_asm); (case X => k_asm); k_whole)
  | (refine' isi_bool ?R ?F ?X ?_; (case R => with_reducible assumption); (case F => k_asm); (case X => k_asm); k_whole)
  | (refine' isi_seq ?R ?F ?N ?X ?m ?_; (case R => with_reducible assumption); (case F => k_asm); (case N => k_asm); (case X => k_asm); (case m => k_mem); k_whole)
  | (refine' isi_full ?R ?F ?N ?X ?m ?_; (case R => with_reducible assumption); (case F => k_asm); (case N => k_asm); (case X => k_asm); (case m => k_mem); k_whole)); intro tk'))
local macro_rules | `(tactic| walk_at "call type:list") => `(tactic| (k_here; (with_reducible show wpAny _ _ (call (Value.type _) [Value.ref _]) _ _ _); k_dflt (first
  | (refine' s72_listL ?F ?N ?h ?z ?_; (case F => k_asm); (case N => k_asm); (case h => assumption); (case z => assumption))
  | (refine' s72_listT ?F ?N ?h ?z ?_; (case F => k_asm); (case N => k_asm); (case h => assumption); (case z => assumption))); intro D' c' h' F' N' l1; (try k_lt l1); (try k_sweep)))
local macro_rules | `(tactic| walk_at "subscriptTail Name Slice ref ref") => `(tactic| (k_here; (with_reducible show wpAny _ _ (subscriptTail _ (PySem.Expr.Slice none none (some _) _) (Value.ref _) (Value.ref _)) _ _ _); k_dflt (refine' s72_rev ?F ?N ?m ?k ?z ?_ ?s ?t; (case F => k_asm); (case N => k_asm); (case m => k_mem); (case k => exact IsPart.int _ _); (case s => with_unfolding_all rfl); (case t => kmk_pure); (case z => assumption)); intro D' h' F' N' l1; (try k_lt l1); (try k_sweep)))
local macro_rules | `(tactic| walk_at "call builtin:len") => `(tactic| (k_here; (with_reducible show wpAny _ _ (call (Value.builtin "len") [Value.ref _]) _ _ _); k_dflt (first
  | (refine' s72_len ?N ?m ?z ?_; (case N => k_asm); (case m => k_mem); (case z => assumption))
  | (refine' s72_lenG ?F ?h ?z ?_; (case F => k_asm); (case h => assumption); (case z => assumption))
  | (refine' s72_lenT ?F ?h ?z ?_; (case F => k_asm); (case h => assumption); (case z => assumption))); intro tk'))
local macro_rules | `(tactic| walk_at "call builtin:list.pop") => `(tactic| (k_here; (with_reducible show wpAny _ _ (call (Value.builtin _) [Value.ref _]) _ _ _); k_dflt (refine' s72_pop ?F ?N ?U ?z ?_; (case F => k_asm); (case N => k_asm); (case U => k_upd); (case z => assumption)); intro h' F' N'; (try k_sweep)))
local macro_rules | `(tactic| walk_at "call builtin:list.append") => `(tactic| (k_here; (with_reducible show wpAny _ _ (call (Value.builtin _) [Value.ref _, _]) _ _ _); k_dflt (refine' s72_append ?F ?N ?U ?z ?_; (case F => k_asm); (case N => k_asm); (case U => k_upd); (case z => assumption)); intro h' F' N'; (try k_sweep)))
local macro_rules | `(tactic| walk_at "call builtin:list.extend") => `(tactic| (k_here; (with_reducible show wpAny _ _ (call (Value.builtin _) [Value.ref _, Value.ref _]) _ _ _); k_dflt (refine' s72_extend ?F ?N ?m ?U ?z ?_; (case F => k_asm); (case N => k_asm); (case m => k_mem); (case U => k_updF); (case z => assumption)); intro h' n' F' N'; (try dsimp only at N'); (try k_sweep)))
local macro_rules | `(tactic| k_steps) => `(tactic| repeat' (first
  | ((fail_if_success (with_reducible show wpAny _ _ (exec (Stmt.While _ _ _ _) _) _ _ _)); first | (k_unfold; (try dsimp only)) | (k_end; kc_close) | walk1 | (dsimp only; walk1) | (leave1; walk_say "STEP leave1"; (try dsimp only)))
  | fail "no step"))
local macro_rules | `(tactic| walk_at "exec Assign cons ListComp") => `(tactic| (k_here; k_dflt (refine' lvl_assign ?sw ?B ?F ?N ?X ?T ?k ?lk ?m ?lv ?d ?u ?R ?nd ?z ?_; (case sw => with_unfolding_all rfl); (case B => k_asm); (case F => k_asm); (case N => k_asm); (case X => k_asm); (case T => k_asm); (case k => exact rfl); (case lk => exact rfl); (case m => exact rfl); (case lv => k_mem); (case d => ktr_room); (case u => ktr_units); (case R => assumption); (case nd => assumption); (case z => assumption)); intro D' us' c' h' tk' F' N' l1 R'; (try k_lt l1); (try k_sweep)))

mutual
def Tr.hgt : Tr → Nat
  | .node _ ts => 1 + hgtL ts
  | .list ts => hgtL ts
  | .tuple ts => hgtL ts
  | _ => 0
def hgtL : List Tr → Nat
  | [] => 0
  | t :: ts => max t.hgt (hgtL ts)
end
theorem hgtL_append : ∀ ts us : List Tr, hgtL (ts ++ us) = max (hgtL ts) (hgtL us)
  | [], us => by simp only [List.nil_append, hgtL]; omega
  | t :: ts, us => by
    simp only [List.cons_append, hgtL]
    rw [hgtL_append ts us]
    exact (Nat.max_assoc _ _ _).symm
mutual
theorem hgt_nodes : ∀ t : Tr, hgtL t.nodes = t.hgt
  | .node k ts => by simp only [Tr.nodes, hgtL, Tr.hgt]; omega
  | .list ts => by simp only [Tr.nodes, Tr.hgt]; exact hgtL_nodes ts
  | .tuple ts => by simp only [Tr.nodes, Tr.hgt]; exact hgtL_nodes ts
  | .none => by simp only [Tr.nodes, Tr.hgt, hgtL]
  | .bool _ => by simp only [Tr.nodes, Tr.hgt, hgtL]
  | .int _ => by simp only [Tr.nodes, Tr.hgt, hgtL]
  | .str _ => by simp only [Tr.nodes, Tr.hgt, hgtL]
theorem hgtL_nodes : ∀ ts : List Tr, hgtL (nodesL ts) = hgtL ts
  | [] => rfl
  | t :: ts => by
    simp only [nodesL, hgtL]
    rw [hgtL_append, hgt_nodes t, hgtL_nodes ts]
end
mutual
theorem nodes_are : ∀ (t x : Tr), x ∈ t.nodes → x.isNode = true
  | .node k ts, x, h => by simp only [Tr.nodes, List.mem_singleton] at h; subst h; rfl
  | .list ts, x, h => nodesL_are ts x (by simpa only [Tr.nodes] using h)
  | .tuple ts, x, h => nodesL_are ts x (by simpa only [Tr.nodes] using h)
  | .none, x, h => by simp only [Tr.nodes] at h; exact nomatch h
  | .bool _, x, h => by simp only [Tr.nodes] at h; exact nomatch h
  | .int _, x, h => by simp only [Tr.nodes] at h; exact nomatch h
  | .str _, x, h => by simp only [Tr.nodes] at h; exact nomatch h
theorem nodesL_are : ∀ (ts : List Tr) (x : Tr), x ∈ nodesL ts → x.isNode = true
  | [], x, h => by simp only [nodesL] at h; exact nomatch h
  | t :: ts, x, h => by
    simp only [nodesL, List.mem_append] at h
    exact h.elim (nodes_are t x) (nodesL_are ts x)
end
theorem next_are : ∀ (ts : List Tr), ∀ x ∈ nextL ts, x.isNode = true
  | [], x, h => nomatch h
  | t :: ts, x, h => by
    cases t with
    | node k us =>
      simp only [nextL, List.mem_append] at h
      exact h.elim (nodesL_are us x) (next_are ts x)
    | _ => exact next_are ts x h
theorem hgt_next : ∀ (ts : List Tr), (∀ x ∈ ts, x.isNode = true) → ts ≠ [] → hgtL ts = 1 + hgtL (nextL ts)
  | [], _, h => absurd rfl h
  | t :: ts, hn, _ => by
    have ht := hn t List.mem_cons_self
    cases t with
    | node k us =>
      simp only [nextL, hgtL, Tr.hgt]
      rw [hgtL_append, hgtL_nodes]
      by_cases e : ts = []
      · subst e
        simp only [hgtL, nextL]
        omega
      · have := hgt_next ts (fun x hx => hn x (List.mem_cons_of_mem _ hx)) e
        omega
    | _ => cases ht
mutual
theorem hgt_size : ∀ t : Tr, t.hgt ≤ t.size
  | .node k ts => by have := hgtL_size ts; simp only [Tr.hgt, Tr.size]; omega
  | .list ts => by have := hgtL_size ts; simp only [Tr.hgt, Tr.size]; omega
  | .tuple ts => by have := hgtL_size ts; simp only [Tr.hgt, Tr.size]; omega
  | .none => by simp only [Tr.hgt, Tr.size]; omega
  | .bool _ => by simp only [Tr.hgt, Tr.size]; omega
  | .int _ => by simp only [Tr.hgt, Tr.size]; omega
  | .str _ => by simp only [Tr.hgt, Tr.size]; omega
theorem hgtL_size : ∀ ts : List Tr, hgtL ts ≤ sizeL ts
  | [] => Nat.le_refl _
  | t :: ts => by
    have := hgt_size t
    have := hgtL_size ts
    simp only [hgtL, sizeL]
    omega
end
theorem many_level {pv qv v u : Option Value} {r : Str → Option Value} : (fun y => if y = Str.ofString "many" then u else if y = Str.ofString "level" then v else if y = Str.ofString "many" then qv else if y = Str.ofString "level" then pv else r y) = fun y => if y = Str.ofString "many" then u else if y = Str.ofString "level" then v else r y := by
  funext y
  by_cases h : y = Str.ofString "many"
  · simp only [if_pos h]
  · by_cases h' : y = Str.ofString "level"
    · simp only [if_neg h, if_pos h']
    · simp only [if_neg h, if_neg h']

section
variable {w : World} {mean : ExcName → Option Value} {mg mb : Str → Option Value}
set_option maxHeartbeats 8000000 in
theorem high_does (v : Value) (k : Str) (ks : List Tr) (most : Int) (tm : Tok) : Does w mean mg mb 20 150 47 [v, .int most tm] (fun h => Rep w (SH h) v (.node k ks) ∧ (Tr.node k ks).size ≤ 1000000)
    (fun _ _ r => ∃ b : Bool, r = .bool b ∧ (b = true ↔ most < ((Tr.node k ks).hgt : Int))) := by
  refine does_of (binds := [(Str.ofString "node", v), (Str.ofString "most", .int most tm)]) (by k_is) (by k_is) (by decide) (fun s => BindsTo.of_eq rfl) (locs rfl) ?_ rfl rfl rfl (by decide)
  intro dp un gd outer A₀ base g L h₁ s Q B F X T hd hu hpre hL hret
  have N : News g L h₁ [] := News.nil
  obtain ⟨R, hz⟩ := hpre
  k_steps
  rename_i lv0 _ _ D0 _ hlt _ _ h' F' N'
  have hz1 : (Tr.node k ks).size = 1 + sizeL ks := rfl
  refine While_inv2 (J := fun n m₁ news₁ => ∃ (lv : Addr) (vs : List Value) (c : Nat) (ts : List Tr) (i : Nat) (ti : Tok),
    m₁ = (fun y => if y = Str.ofString "many" then some (.int (i : Int) ti) else if y = Str.ofString "level" then some (.ref lv) else List.lookup y [(Str.ofString "node", v), (Str.ofString "most", Value.int most tm)].reverse) ∧
    news₁ = [(lv, listOf vs.toArray c)] ∧ RepL w (SH g) vs ts ∧ (∀ x ∈ ts, x.isNode = true) ∧ sizeL ts ≤ 1000000 ∧ i + hgtL ts = (Tr.node k ks).hgt ∧ n = hgtL ts) (n₀ := (Tr.node k ks).hgt) F' (fun p hp => N' p (.tail _ hp)) ?_ ?_ PassesOwn.never
  · refine ⟨lv0, [v], 0, [Tr.node k ks], 0, s.toks, ?_, rfl, .cons R .nil, ?_, ?_, ?_, ?_⟩
    · funext y
      by_cases h : y = Str.ofString "many"
      · subst h; rfl
      · simp only [if_neg h]
    · intro x hx
      rw [List.mem_singleton.mp hx]; rfl
    · simp only [sizeL]; omega
    · simp only [hgtL]; omega
    · simp only [hgtL]; omega
  · rintro n m₁ news₁ h₂ tk₁ F₂ N₂ ⟨lv, vs, c, ts, i, ti, rfl, rfl, Rv, hnd, hsz, hsum, rfl⟩
    clear F' N' R
    have hl0 := repL_room Rv hsz
    have hlen := Rv.length
    have hH := hgt_size (Tr.node k ks)
    rcases ts with _ | ⟨t, ts⟩
    · cases repL_nil Rv
      k_steps
      refine hret _ _ _ (Fr.keep F₂) ⟨_, rfl, ?_⟩
      have e0 : hgtL ([] : List Tr) = 0 := rfl
      rw [decide_eq_true_iff]
      omega
    · have hpos : (vs.length : Int) > 0 := by rw [hlen, List.length_cons]; omega
      have hnx := hgt_next (t :: ts) hnd (by simp)
      have hsn := sizeL_next (t :: ts)
      k_steps
      · rename_i F' N'
        refine ⟨_, _, _, _, hgtL (nextL (t :: ts)), rfl, F', fun p hp => N' p (by rw [List.mem_singleton.mp hp]; exact .head _), by omega, _, _, _, nextL (t :: ts), i + 1, _, many_level, rfl, by assumption, next_are _, by omega, by omega, rfl⟩
      · rename_i hI _
        refine hret _ _ _ (Fr.keep F₂) ⟨_, rfl, ?_⟩
        rw [decide_eq_true_iff]
        omega
end

end S72

namespace S72
theorem fill_S72For (P : Params) : hd.heap_39 P = hd.heap_39 P ∧ Challenge.rw_sz0072_01 = Challenge.rw_sz0072_01 := by
  w_top off
  k_fill
  exact ⟨rfl, rfl⟩
/-- how a turn of a loop over a list ends -/
def ForEnd (g : Heap) (L I lst : Addr) (oi o : Obj) (s : Shared) (J : (Str → Option Value) → List (Addr × Obj) → Prop) (Q : Flow → Shared → Prop) (f : Flow) (s' : Shared) : Prop :=
  match f with
  | .next | .cont => ∃ h' tk' m₂ news₂, s' = { s with heap := h', toks := tk' } ∧ Fr g L h' m₂ ∧ News g L h' ((I, oi) :: (lst, o) :: news₂) ∧ (∀ q ∈ news₂, q.1 ≠ I) ∧ J m₂ news₂
  | .brk => Q .next s'
  | .ret v => Q (.ret v) s'

section
variable {prog : Program} {w : World} {A : Around} {E : Value → Shared → Prop} {s : Shared} {g : Heap} {env : Env} {m : Str → Option Value} {news : List (Addr × Obj)} {Q : Flow → Shared → Prop} {x : Str} {px : Pos} {body : List Stmt} {lst : Addr} {vs : List Value} {n : Nat}

theorem for_iter (J : Nat → (Str → Option Value) → List (Addr × Obj) → Prop) (hh : A.handled = none) (hx : env.kindOf x = some .local) (hp : (env.scope.kind == .class || (env.scope.kind == .module && env.locals != env.globals)) = false)
    (F : Fr g env.locals s.heap m) (N : News g env.locals s.heap ((lst, listOf vs.toArray n) :: news)) (hJ : J 0 m news)
    (turn : ∀ I oi i v m₁ news₁ h tk, (∀ q ∈ (lst, listOf vs.toArray n) :: news, q.1 < I) → (∀ q ∈ news₁, q.1 ≠ I) → oi.cls = .type "list_iterator" → vs[i]? = some v → J i m₁ news₁ → Fr g env.locals h (fun y => if y = x then some v else m₁ y) → News g env.locals h ((I, oi) :: (lst, listOf vs.toArray n) :: news₁) →
      wpAny (model prog w) A (execs body env) (ForEnd g env.locals I lst oi (listOf vs.toArray n) s (J (i + 1)) Q) (fun _ _ => False) { s with heap := h, toks := tk })
    (done : ∀ m₁ news₁ h tk, J vs.length m₁ news₁ → Fr g env.locals h m₁ → News g env.locals h ((lst, listOf vs.toArray n) :: news₁) → Q .next { s with heap := h, toks := tk }) :
    wpAny (model prog w) A (pyIter (.ref lst)) (fun it s₂ => codeAny (model prog w) A (.forLoop (.Name x px) it body [] env) (fun r s' => match r with | .ok f => Q f s' | .error e => cameBackBy (model prog w) A env E e s') s₂) E s := by
  have hl := (N _ (.head _)).1
  obtain ⟨oL, _, _, eL, _⟩ := F.ns
  have lt : ∀ q ∈ (lst, listOf vs.toArray n) :: news, q.1 < s.heap.objs.size := fun q hq => Heap.lt_size (N q hq).1
  have gI : g.get? s.heap.objs.size = none := by
    cases r : g.get? s.heap.objs.size with
    | none => rfl
    | some o => exact absurd (Heap.lt_size (F.keep _ _ r)) (Nat.lt_irrefl _)
  have nIL : s.heap.objs.size ≠ env.locals := Nat.ne_of_gt (Heap.lt_size eL)
  refine wpAny_pyIter_list (items := vs.toArray) ⟨_, hl, rfl, _, rfl⟩ ?_
  refine codeAny_forLoop (fun k s' => ∃ h tk m₁ news₁ i oi, s' = { s with heap := h, toks := tk } ∧ i ≤ vs.length ∧ k = vs.length - i ∧ Fr g env.locals h m₁ ∧ News g env.locals h ((s.heap.objs.size, oi) :: (lst, listOf vs.toArray n) :: news₁) ∧
      (∀ q ∈ (lst, listOf vs.toArray n) :: news₁, q.1 ≠ s.heap.objs.size) ∧ oi.cls = .type "list_iterator" ∧ oi.data = .fields #[.ref lst, .int i 0] ∧ J i m₁ news₁) ?_ vs.length
    ⟨_, s.toks, m, news, 0, _, rfl, Nat.zero_le _, rfl, F.push _, N.push F _, fun q hq => Nat.ne_of_lt (lt q hq), rfl, rfl, hJ⟩
  rintro k s' ⟨h, tk, m₁, news₁, i, oi, rfl, hi, rfl, F₁, N₁, ne₁, hc, hd, J₁⟩
  have hit := (N₁ _ (.head _)).1
  have hls := (N₁ _ (.tail _ (.head _))).1
  have hl₁ : h.IsList lst vs.toArray := ⟨_, hls, rfl, _, rfl⟩
  have hit₁ : h.IsListIter s.heap.objs.size lst i := ⟨_, hit, hc, hd⟩
  by_cases hlt : i < vs.length
  · refine wpAny_noRaise (wpAny_pyNext_list_item hit₁ hl₁ (x := vs[i]) (by simp [hlt]) fun h₂ hit₂ hs₂ => ?_)
    obtain ⟨oi₂, ho₂, hc₂, hd₂⟩ := hit₂
    have F₂ := F₁.change hs₂ nIL gI
    have N₂ : News g env.locals h₂ ((s.heap.objs.size, oi₂) :: (lst, listOf vs.toArray n) :: news₁) := fun q hq => by
      rcases List.mem_cons.mp hq with rfl | hq
      · exact ⟨ho₂, nIL, gI⟩
      · have e := N₁ q (.tail _ hq)
        exact ⟨(hs₂.2 _ (ne₁ q hq)).trans e.1, e.2⟩
    refine wpAny_assign_Name (wpAny_storeName_local hx F₂.ns (fun h₃ hn₃ hs₃ => ?_) hp)
    refine wpAny_noRaise (wpAny_mono (turn s.heap.objs.size oi₂ i vs[i] m₁ news₁ h₃ _ lt (fun q hq => ne₁ q (.tail _ hq)) hc₂ (by simp [hlt]) J₁ (F₂.set hn₃ hs₃) (N₂.set hs₃)) (fun f s₄ hf => ?_) fun _ _ x => x)
    have fin : (∃ h' tk' m₂ news₂, s₄ = { s with heap := h', toks := tk' } ∧ Fr g env.locals h' m₂ ∧ News g env.locals h' ((s.heap.objs.size, oi₂) :: (lst, listOf vs.toArray n) :: news₂) ∧ (∀ q ∈ news₂, q.1 ≠ s.heap.objs.size) ∧ J (i + 1) m₂ news₂) →
        ∃ m, m < vs.length - i ∧ ∃ h tk m₁ news₁ i oi, s₄ = { s with heap := h, toks := tk } ∧ i ≤ vs.length ∧ m = vs.length - i ∧ Fr g env.locals h m₁ ∧ News g env.locals h ((s.heap.objs.size, oi) :: (lst, listOf vs.toArray n) :: news₁) ∧
          (∀ q ∈ (lst, listOf vs.toArray n) :: news₁, q.1 ≠ s.heap.objs.size) ∧ oi.cls = .type "list_iterator" ∧ oi.data = .fields #[.ref lst, .int i 0] ∧ J i m₁ news₁ := by
      rintro ⟨h', tk', m₂, news₂, e, F₄, N₄, ne₄, J₄⟩
      refine ⟨vs.length - (i + 1), by omega, h', tk', m₂, news₂, i + 1, oi₂, e, hlt, rfl, F₄, N₄, fun q hq => ?_, hc₂, hd₂, J₄⟩
      rcases List.mem_cons.mp hq with rfl | hq
      · exact Nat.ne_of_lt (lt _ (.head _))
      · exact ne₄ q hq
    cases f with
    | next => exact fin hf
    | cont => exact fin hf
    | brk => exact hf
    | ret v => exact hf
  · have he : i = vs.length := by omega
    subst he
    refine wpAny_noRaise (wpAny_pyNext_list_end hh hit₁ hl₁ (by simp) fun h₂ ext => ?_)
    refine wpAny_execs_nil ?_
    refine done m₁ news₁ h₂ tk J₁ ?_ fun q hq => ⟨ext _ _ (ne₁ q hq) (N₁ q (.tail _ hq)).1, (N₁ q (.tail _ hq)).2⟩
    obtain ⟨oL, es, ep, eL, rL⟩ := F₁.ns
    refine ⟨⟨oL, es, ep, ext _ _ nIL.symm eL, rL⟩, fun b o e => ext _ _ (fun q => ?_) (F₁.keep b o e), F₁.above⟩
    rw [q, gI] at e; cases e
end
section
variable {g h : Heap} {L I lst : Addr} {oi o : Obj} {es news₁ : List (Addr × Obj)}
theorem led_split (N : News g L h (es ++ (I, oi) :: (lst, o) :: news₁)) : News g L h ((I, oi) :: (lst, o) :: (es ++ news₁)) := fun q hq => N q (by
  rcases List.mem_cons.mp hq with rfl | hq
  · exact List.mem_append_right _ (.head _)
  · rcases List.mem_cons.mp hq with rfl | hq
    · exact List.mem_append_right _ (.tail _ (.head _))
    · rcases List.mem_append.mp hq with hq | hq
      · exact List.mem_append_left _ hq
      · exact List.mem_append_right _ (.tail _ (.tail _ hq)))
theorem led_ne (N : News g L h (es ++ (I, oi) :: (lst, o) :: news₁)) (hoi : oi.cls = .type "list_iterator") (hes : (es.all fun q => !decide (q.2.cls = .type "list_iterator")) = true) (ne : ∀ q ∈ news₁, q.1 ≠ I) : ∀ q ∈ es ++ news₁, q.1 ≠ I := by
  intro q hq e
  rcases List.mem_append.mp hq with hq | hq
  · have z := (N q (List.mem_append_left _ hq)).1
    rw [e, (N (I, oi) (List.mem_append_right _ (.head _))).1] at z
    have := List.all_eq_true.mp hes q hq
    cases z
    simp [hoi] at this
  · exact ne q hq e
end

section
variable {w : World} {mean : ExcName → Option Value} {mg mb : Str → Option Value} {dp un : Nat} {gd : Option (List Code)} {cn : Str} {cs : Scope} {L a : Addr} {ccd : Value} {cl : List (Str × Addr)} {outer : List Env} {A₀ : Around} {base h₀ : Heap} {m : Str → Option Value} {s : Shared} {Q E : Value → Shared → Prop} {news : List (Addr × Obj)} {kv l p : Value}
theorem node_use (B : Below A₀ base outer h₀) (F : Fr h₀ L s.heap m) (N : News h₀ L s.heap news) (X : (hd.heap_39 w.params).In h₀) (T : Top hd.view_39 (looseW hd.view_39 []) mean mg mb h₀) (hk : cs.kind = .function)
    (hd : dp + 9 < recursionLimit) (hu : un + 50 < cLine)
    (k : ∀ x dx t₁ t₂ t₃ t₄ n h' tk', Fr h₀ L h' m → News h₀ L h' ((x, instObj 31 dx) :: (dx, dictOf (nodeEs w kv l p t₁ t₂ t₃ t₄) n) :: news) → (∀ q ∈ news, q.1 ≠ x ∧ q.1 ≠ dx) → Q (.ref x) { s with heap := h', toks := tk' }) :
    wpAny (model Challenge.rw_sz0072_01.row.prog w) (ktrTop dp un gd cn cs L a ccd cl outer) (call (.ref 31) [kv, l, p]) Q E s := by
  refine does_use (node_does kv l p) B F N X T hk hd hu trivial fun r h' tk' F' N' _ P => ?_
  obtain ⟨x, dx, t₁, t₂, t₃, t₄, n, rfl, hx, hdx, fx, fdx⟩ := P
  obtain ⟨oL, _, _, eL, _⟩ := F.ns
  have ne : ∀ {b : Addr} {y : Addr} {o : Obj}, s.heap.get? y = none → s.heap.get? b = some o → b ≠ y := fun e1 e2 q => by rw [q, e1] at e2; cases e2
  have gn : ∀ {y : Addr}, s.heap.get? y = none → h₀.get? y = none := fun {y} e => by
    cases r : h₀.get? y with
    | none => rfl
    | some o => rw [F.keep _ _ r] at e; cases e
  refine k x dx t₁ t₂ t₃ t₄ n h' tk' F' (fun q hq => ?_) fun q hq => ⟨ne fx (N q hq).1, ne fdx (N q hq).1⟩
  rcases List.mem_cons.mp hq with rfl | hq
  · exact ⟨hx, (ne fx eL).symm, gn fx⟩
  · rcases List.mem_cons.mp hq with rfl | hq
    · exact ⟨hdx, (ne fdx eL).symm, gn fdx⟩
    · exact N' q hq
end
section
variable {prog : Program} {w : World} {A : Around} {E : Value → Shared → Prop} {s : Shared} {g : Heap} {L lst : Addr} {news : List (Addr × Obj)} {vs : List Value} {n : Nat} {Q : Value → Shared → Prop} {value slice : Expr} {k : Int} {u : Tok}
theorem s72_pick (N : News g L s.heap news) (hm : (lst, listOf vs.toArray n) ∈ news) (h0 : 0 ≤ k) (h1 : k < vs.length) (hz : vs.length ≤ 1000) (kont : ∀ v, vs[k.toNat]? = some v → Q v s)
    (hs : subscripted slice false (.ref lst) (.int k u) = operate [.ref lst, .int k u] (getItem (.ref lst) (.int k u)) := by with_unfolding_all rfl) :
    wpAny (model prog w) A (subscriptTail value slice (.ref lst) (.int k u)) Q E s := by
  have hk : k.toNat < vs.length := by omega
  exact tail_any (News.isList N hm).typeIs slot_list_getitem.lookup (wpAny_getItem_list (News.isList N hm) h0 (by omega) (by rw [List.getElem?_toArray]; exact List.getElem?_eq_getElem hk) (kont _ (List.getElem?_eq_getElem hk))) hs
end
end S72

namespace S72
theorem fill_S72Around (P : Params) : hd.heap_39 P = hd.heap_39 P ∧ Challenge.rw_sz0072_01 = Challenge.rw_sz0072_01 := by
  w_top off
  k_fill
  exact ⟨rfl, rfl⟩
local macro_rules | `(tactic| walk_at "s72 none") => `(tactic| fail "none")
local macro_rules | `(tactic| k_inst) => `(tactic| (refine' s72_inst ?F ?h1 ?h2; (case F => k_asm); (case h1 => assumption); (case h2 => assumption)))
local macro_rules | `(tactic| kit_at) => `(tactic| (refine' s72_at ?F ?h1 ?c; (case F => k_asm); (case h1 => assumption); (case c => exact rfl)))
local macro_rules | `(tactic| k_room) => `(tactic| ktr_room)
local macro_rules | `(tactic| walk_at "call builtin:isinstance") => `(tactic| (k_here; k_dflt (first
  | (refine' isi_Node ?R ?F ?X ?_; (case R => with_reducible assumption); (case F => k_asm); (case X => k_asm); k_whole)
  | (refine' isi_tuple ?R ?F ?X ?_; (case R => with_reducible assumption); (case F => k_asm); (case X => k_asm); k_whole)
  | (refine' isi_bool ?R ?F ?X ?_; (case R => with_reducible assumption); (case F => k_asm); (case X => k_asm); k_whole)
  | (refine' isi_seq ?R ?F ?N ?X ?m ?_; (case R => with_reducible assumption); (case F => k_asm); (case N => k_asm); (case X => k_asm); (case m => k_mem); k_whole)
  | (refine' isi_full ?R ?F ?N ?X ?m ?_; (case R => with_reducible assumption); (case F => k_asm); (case N => k_asm); (case X => k_asm); (case m => k_mem); k_whole)); intro tk'))
local macro_rules | `(tactic| walk_at "call type:list") => `(tactic| (k_here; (with_reducible show wpAny _ _ (call (Value.type _) [Value.ref _]) _ _ _); k_dflt (first
  | (refine' s72_listL ?F ?N ?h ?z ?_; (case F => k_asm); (case N => k_asm); (case h => assumption); (case z => assumption))
  | (refine' s72_listT ?F ?N ?h ?z ?_; (case F => k_asm); (case N => k_asm); (case h => assumption); (case z => assumption))); intro D' c' h' F' N' l1; (try k_lt l1); (try k_sweep)))
local macro_rules | `(tactic| walk_at "subscriptTail Name Slice ref ref") => `(tactic| (k_here; (with_reducible show wpAny _ _ (subscriptTail _ (PySem.Expr.Slice none none (some _) _) (Value.ref _) (Value.ref _)) _ _ _); k_dflt (refine' s72_rev ?F ?N ?m ?k ?z ?_ ?s ?t; (case F => k_asm); (case N => k_asm); (case m => k_mem); (case k => exact IsPart.int _ _); (case s => with_unfolding_all rfl); (case t => kmk_pure); (case z => assumption)); intro D' h' F' N' l1; (try k_lt l1); (try k_sweep)))
local macro_rules | `(tactic| walk_at "call builtin:len") => `(tactic| (k_here; (with_reducible show wpAny _ _ (call (Value.builtin "len") [Value.ref _]) _ _ _); k_dflt (first
  | (refine' s72_len ?N ?m ?z ?_; (case N => k_asm); (case m => k_mem); (case z => assumption))
  | (refine' s72_lenG ?F ?h ?z ?_; (case F => k_asm); (case h => assumption); (case z => assumption))
  | (refine' s72_lenT ?F ?h ?z ?_; (case F => k_asm); (case h => assumption); (case z => assumption))); intro tk'))
local macro_rules | `(tactic| walk_at "call builtin:list.pop") => `(tactic| (k_here; (with_reducible show wpAny _ _ (call (Value.builtin _) [Value.ref _]) _ _ _); k_dflt (refine' s72_pop ?F ?N ?U ?z ?_; (case F => k_asm); (case N => k_asm); (case U => k_upd); (case z => assumption)); intro h' F' N'; (try k_sweep)))
local macro_rules | `(tactic| walk_at "call builtin:list.append") => `(tactic| (k_here; (with_reducible show wpAny _ _ (call (Value.builtin _) [Value.ref _, _]) _ _ _); k_dflt (refine' s72_append ?F ?N ?U ?z ?_; (case F => k_asm); (case N => k_asm); (case U => k_upd); (case z => assumption)); intro h' F' N'; (try k_sweep)))
local macro_rules | `(tactic| walk_at "call builtin:list.extend") => `(tactic| (k_here; (with_reducible show wpAny _ _ (call (Value.builtin _) [Value.ref _, Value.ref _]) _ _ _); k_dflt (refine' s72_extend ?F ?N ?m ?U ?z ?_; (case F => k_asm); (case N => k_asm); (case m => k_mem); (case U => k_updF); (case z => assumption)); intro h' n' F' N'; (try dsimp only at N'); (try k_sweep)))
local macro_rules | `(tactic| k_steps) => `(tactic| repeat' (first
  | ((fail_if_success (with_reducible show wpAny _ _ (exec (Stmt.While _ _ _ _) _) _ _ _)); first | (k_unfold; (try dsimp only)) | (k_end; kc_close) | walk1 | (dsimp only; walk1) | (leave1; walk_say "STEP leave1"; (try dsimp only)))
  | fail "no step"))
local macro_rules | `(tactic| k_steps) => `(tactic| repeat' (first
  | ((fail_if_success (with_reducible show wpAny _ _ (exec (Stmt.While _ _ _ _) _) _ _ _)); (fail_if_success (with_reducible show wpAny _ _ (exec (Stmt.For _ _ _ _ _) _) _ _ _)); (fail_if_success (with_reducible show wpAny _ _ (subscriptTail _ _ (Value.ref _) (Value.int _ _)) _ _ _)); first | (k_unfold; (try dsimp only)) | (k_end; kc_close) | walk1 | (dsimp only; walk1) | (leave1; walk_say "STEP leave1"; (try dsimp only)))
  | fail "no step"))
local macro_rules | `(tactic| walk_at "call ref") => `(tactic| (k_here; (with_reducible show wpAny _ _ (call (Value.ref 31) [_, _, _]) _ _ _); k_dflt (refine' node_use ?B ?F ?N ?X ?T ?k ?d ?u ?_; (case B => k_asm); (case F => k_asm); (case N => k_asm); (case X => k_asm); (case T => k_asm); (case k => first | exact rfl | assumption); (case d => ktr_room); (case u => ktr_units)); intro x' dx' t1' t2' t3' t4' n' h' tk' F' N' l1; (try k_sweep)))

/-- a part within one of six surroundings -/
def wrapT (form : Int) (t : Tr) : Tr :=
  if form = 0 then t else if form = 1 then .list [t] else if form = 2 then .list [.int 1, t] else if form = 3 then .tuple [t, .str (Str.ofString "a")]
  else if form = 4 then .node (Str.ofString "If") [t, .none] else .node (Str.ofString "Expr") [.list [t]]
def formsOf (cell : Int) : List Int := [cell.fmod 6, (cell.fdiv 6).fmod 6, (cell.fdiv 36).fmod 6]
def wrapAll (fs : List Int) (t : Tr) : Tr := fs.foldl (fun t f => wrapT f t) t

theorem rep_pick {w : World} {S S' : Addr → Obj → Prop} {v' v9 l : Value} {T : Tr} {k : Int} {l1 l2 l3 l4 l5 D x1 x2 d1 d2 : Addr} {n1 n2 n3 n4 n5 nD e1 e2 : Nat} {u1 u2 u3 u4 a1 a2 a3 a4 b1 b2 b3 b4 : Tok}
    (R : Rep w S' v' T) (sub : ∀ a o, S' a o → S a o) (h5 : S l5 (listOf (List.toArray [v']) n5)) (h4 : S l4 (listOf (List.toArray [Value.int 1 u1, v']) n4)) (hD : S D (tupOf (List.toArray [v', Value.str (Str.ofString "a") u2]) nD))
    (hx1 : S x1 (instObj 31 d1)) (hd1 : S d1 (dictOf (nodeEs w (Value.str (Str.ofString "If") u3) l (.ref l3) a1 a2 a3 a4) e1)) (h3 : S l3 (listOf (List.toArray [v', Value.none]) n3))
    (hx2 : S x2 (instObj 31 d2)) (hd2 : S d2 (dictOf (nodeEs w (Value.str (Str.ofString "Expr") u4) l (.ref l1) b1 b2 b3 b4) e2)) (h1 : S l1 (listOf (List.toArray [Value.ref l2]) n1)) (h2 : S l2 (listOf (List.toArray [v']) n2))
    (k0 : 0 ≤ k) (k6 : k < 6) (e9 : [v', Value.ref l5, Value.ref l4, Value.ref D, Value.ref x1, Value.ref x2][k.toNat]? = some v9) : Rep w S v9 (wrapT k T) := by
  have R' := R.mono sub
  have hk : k = 0 ∨ k = 1 ∨ k = 2 ∨ k = 3 ∨ k = 4 ∨ k = 5 := by omega
  rcases hk with rfl | rfl | rfl | rfl | rfl | rfl
  · cases e9; exact R'
  · cases e9; exact .list h5 (.cons R' .nil)
  · cases e9; exact .list h4 (.cons (.int 1 _) (.cons R' .nil))
  · cases e9; exact .tuple hD (.cons R' (.cons (.str _ _) .nil))
  · cases e9; exact .node hx1 hd1 h3 (.cons R' (.cons .none .nil))
  · cases e9; exact .node hx2 hd2 h1 (.cons (.list h2 (.cons R' .nil)) .nil)
theorem rep_pickN {g h : Heap} {L I lst : Addr} {oi o : Obj} {news₁ : List (Addr × Obj)} {w : World} {S : Addr → Obj → Prop} {v' v9 l : Value} {T : Tr} {k : Int} {l1 l2 l3 l4 l5 D x1 x2 d1 d2 : Addr} {n1 n2 n3 n4 n5 nD e1 e2 : Nat} {u1 u2 u3 u4 a1 a2 a3 a4 b1 b2 b3 b4 : Tok}
    (es : List (Addr × Obj)) (_N : News g L h (es ++ (I, oi) :: (lst, o) :: news₁)) (R : Rep w (fun a o => (a, o) ∈ news₁ ∨ S a o) v' T) (h5 : (l5, listOf (List.toArray [v']) n5) ∈ es) (h4 : (l4, listOf (List.toArray [Value.int 1 u1, v']) n4) ∈ es) (hD : (D, tupOf (List.toArray [v', Value.str (Str.ofString "a") u2]) nD) ∈ es)
    (hx1 : (x1, instObj 31 d1) ∈ es) (hd1 : (d1, dictOf (nodeEs w (Value.str (Str.ofString "If") u3) l (.ref l3) a1 a2 a3 a4) e1) ∈ es) (h3 : (l3, listOf (List.toArray [v', Value.none]) n3) ∈ es)
    (hx2 : (x2, instObj 31 d2) ∈ es) (hd2 : (d2, dictOf (nodeEs w (Value.str (Str.ofString "Expr") u4) l (.ref l1) b1 b2 b3 b4) e2) ∈ es) (h1 : (l1, listOf (List.toArray [Value.ref l2]) n1) ∈ es) (h2 : (l2, listOf (List.toArray [v']) n2) ∈ es)
    (k0 : 0 ≤ k) (k6 : k < 6) (e9 : [v', Value.ref l5, Value.ref l4, Value.ref D, Value.ref x1, Value.ref x2][k.toNat]? = some v9) : Rep w (fun a o => (a, o) ∈ es ++ news₁ ∨ S a o) v9 (wrapT k T) :=
  rep_pick R (fun a o h => h.imp (List.mem_append_right _) id) (.inl (List.mem_append_left _ h5)) (.inl (List.mem_append_left _ h4)) (.inl (List.mem_append_left _ hD)) (.inl (List.mem_append_left _ hx1)) (.inl (List.mem_append_left _ hd1)) (.inl (List.mem_append_left _ h3)) (.inl (List.mem_append_left _ hx2)) (.inl (List.mem_append_left _ hd2)) (.inl (List.mem_append_left _ h1)) (.inl (List.mem_append_left _ h2)) k0 k6 e9
theorem part_form {a b c d : Option Value} {r : Str → Option Value} : (fun y => if y = Str.ofString "part" then a else if y = Str.ofString "form" then b else if y = Str.ofString "part" then c else if y = Str.ofString "form" then d else r y) = fun y => if y = Str.ofString "part" then a else if y = Str.ofString "form" then b else r y := by
  funext y
  by_cases h : y = Str.ofString "part"
  · simp only [if_pos h]
  · by_cases h' : y = Str.ofString "form"
    · simp only [if_neg h, if_pos h']
    · simp only [if_neg h, if_neg h']
theorem wrapAll_snoc {fs : List Int} {i : Nat} {k : Int} {t : Tr} (h : fs[i]? = some k) : wrapAll (fs.take (i + 1)) t = wrapT k (wrapAll (fs.take i) t) := by
  unfold wrapAll
  rw [List.take_add_one, h, List.foldl_append]
  rfl

section
variable {w : World} {mean : ExcName → Option Value} {mg mb : Str → Option Value}
set_option maxHeartbeats 8000000 in
theorem around_does {S : Addr → Obj → Prop} (cell : Int) (tc : Tok) (v l : Value) (t : Tr) : Does w mean mg mb 20 150 75 [.int cell tc, v, l] (fun h => Rep w S v t ∧ (∀ a o, S a o → h.get? a = some o) ∧ 0 ≤ cell)
    (fun g h' r => Rep w (fun a o => h'.get? a = some o ∧ (S a o ∨ g.get? a = none)) r (wrapAll (formsOf cell) t)) := by
  refine does_of (binds := [(Str.ofString "cell", .int cell tc), (Str.ofString "part", v), (Str.ofString "line", l)]) (by k_is) (by k_is) (by decide) (fun s => BindsTo.of_eq rfl) (locs rfl) ?_ rfl rfl rfl (by decide)
  intro dp un gd outer A₀ base g L h₁ s Q B F X T hd hu hpre hL hret
  have N : News g L h₁ [] := News.nil
  obtain ⟨R, hS, hc⟩ := hpre
  k_steps
  refine wpAny_For ?_
  k_steps
  rename_i lst h' F' N' _
  refine for_iter (env := envOf _ _ L 75 (.ref 74)) (vs := [Value.int (cell.fmod 6) _, Value.int ((cell.fdiv 6).fmod 6) _, Value.int ((cell.fdiv 36).fmod 6) _]) (news := [])
    (fun i m₁ news₁ => ∃ fv v', m₁ = (fun y => if y = Str.ofString "part" then some v' else if y = Str.ofString "form" then fv else List.lookup y [(Str.ofString "cell", Value.int cell tc), (Str.ofString "part", v), (Str.ofString "line", l)].reverse) ∧
      Rep w (fun a o => (a, o) ∈ news₁ ∨ S a o) v' (wrapAll ((formsOf cell).take i) t)) rfl rfl rfl F' N' ?_ ?_ ?_
  · refine ⟨none, v, ?_, R.mono fun _ _ h => .inr h⟩
    funext y
    by_cases h : y = Str.ofString "part"
    · subst h; rfl
    · rw [if_neg h]
      by_cases h : y = Str.ofString "form"
      · subst h; rfl
      · rw [if_neg h]
  · rintro I oi i vi m₁ news₁ h₂ tk₂ lt ne hoi hvi ⟨fv, v', rfl, R'⟩ F₂ N₂
    have hform : ∃ k tk, vi = .int k tk ∧ (formsOf cell)[i]? = some k ∧ 0 ≤ k ∧ k < 6 := by
      have q1 := Int.fmod_nonneg_of_pos cell (b := 6) (by decide)
      have q2 := Int.fmod_lt_of_pos cell (b := 6) (by decide)
      have q3 := Int.fmod_nonneg_of_pos (cell.fdiv 6) (b := 6) (by decide)
      have q4 := Int.fmod_lt_of_pos (cell.fdiv 6) (b := 6) (by decide)
      have q5 := Int.fmod_nonneg_of_pos (cell.fdiv 36) (b := 6) (by decide)
      have q6 := Int.fmod_lt_of_pos (cell.fdiv 36) (b := 6) (by decide)
      match i, hvi with
      | 0, e => cases e; exact ⟨_, _, rfl, rfl, q1, q2⟩
      | 1, e => cases e; exact ⟨_, _, rfl, rfl, q3, q4⟩
      | 2, e => cases e; exact ⟨_, _, rfl, rfl, q5, q6⟩
    obtain ⟨k, tk, rfl, hk, k0, k6⟩ := hform
    k_steps
    rename_i F9 N9 l9
    refine s72_pick N9 (.head _) k0 k6 (Nat.le_of_ble_eq_true rfl) (fun v9 e9 => ?_)
    have P := rep_pickN [_, _, _, _, _, _, _, _, _, _, _] N9 R' (by k_mem) (by k_mem) (by k_mem) (by k_mem) (by k_mem) (by k_mem) (by k_mem) (by k_mem) (by k_mem) (by k_mem) k0 k6 e9
    clear e9
    k_steps
    rename_i F8 N8
    refine ⟨_, _, _, _, rfl, F8, led_split (es := [_, _, _, _, _, _, _, _, _, _, _]) N8, led_ne (es := [_, _, _, _, _, _, _, _, _, _, _]) N8 hoi (by rfl) ne, _, v9, part_form, ?_⟩
    rw [wrapAll_snoc hk]
    exact P
  · rintro m₁ news₁ h₂ tk₂ ⟨fv, v', rfl, R'⟩ F₂ N₂
    k_steps
    refine hret _ _ _ (Fr.keep F₂) (Rep.mono (fun a o h => ?_) R')
    rcases h with h | h
    · exact ⟨(N₂ _ (.tail _ h)).1, .inr (N₂ _ (.tail _ h)).2.2⟩
    · exact ⟨F₂.keep _ _ (hS _ _ h), .inl h⟩
end

end S72

namespace S72
theorem fill_S72Part (P : Params) : hd.heap_39 P = hd.heap_39 P ∧ Challenge.rw_sz0072_01 = Challenge.rw_sz0072_01 := by
  w_top off
  k_fill
  exact ⟨rfl, rfl⟩
local macro_rules | `(tactic| k_inst) => `(tactic| (refine' s72_inst ?F ?h1 ?h2; (case F => k_asm); (case h1 => assumption); (case h2 => assumption)))
local macro_rules | `(tactic| kit_at) => `(tactic| (refine' s72_at ?F ?h1 ?c; (case F => k_asm); (case h1 => assumption); (case c => exact rfl)))
local macro_rules | `(tactic| k_room) => `(tactic| ktr_room)
local macro_rules | `(tactic| walk_at "call builtin:isinstance") => `(tactic| (k_here; k_dflt (first
  | (refine' isi_Node ?R ?F ?X ?_; (case R => with_reducible assumption); (case F => k_asm); (case X => k_asm); k_whole)
  | (refine' isi_tuple ?R ?F ?X ?_; (case R => with_reducible assumption); (case F => k_asm); (case X => k_asm); k_whole)
  | (refine' isi_bool ?R ?F ?X ?_; (case R => with_reducible assumption); (case F => k_asm); (case X => k_asm); k_whole)
  | (refine' isi_seq ?R ?F ?N ?X ?m ?_; (case R => with_reducible assumption); (case F => k_asm); (case N => k_asm); (case X => k_asm); (case m => k_mem); k_whole)
  | (refine' isi_full ?R ?F ?N ?X ?m ?_; (case R => with_reducible assumption); (case F => k_asm); (case N => k_asm); (case X => k_asm); (case m => k_mem); k_whole)); intro tk'))
local macro_rules | `(tactic| walk_at "call type:list") => `(tactic| (k_here; (with_reducible show wpAny _ _ (call (Value.type _) [Value.ref _]) _ _ _); k_dflt (first
  | (refine' s72_listL ?F ?N ?h ?z ?_; (case F => k_asm); (case N => k_asm); (case h => assumption); (case z => assumption))
  | (refine' s72_listT ?F ?N ?h ?z ?_; (case F => k_asm); (case N => k_asm); (case h => assumption); (case z => assumption))); intro D' c' h' F' N' l1; (try k_lt l1); (try k_sweep)))
local macro_rules | `(tactic| walk_at "subscriptTail Name Slice ref ref") => `(tactic| (k_here; (with_reducible show wpAny _ _ (subscriptTail _ (PySem.Expr.Slice none none (some _) _) (Value.ref _) (Value.ref _)) _ _ _); k_dflt (refine' s72_rev ?F ?N ?m ?k ?z ?_ ?s ?t; (case F => k_asm); (case N => k_asm); (case m => k_mem); (case k => exact IsPart.int _ _); (case s => with_unfolding_all rfl); (case t => kmk_pure); (case z => assumption)); intro D' h' F' N' l1; (try k_lt l1); (try k_sweep)))
local macro_rules | `(tactic| walk_at "call builtin:len") => `(tactic| (k_here; (with_reducible show wpAny _ _ (call (Value.builtin "len") [Value.ref _]) _ _ _); k_dflt (first
  | (refine' s72_len ?N ?m ?z ?_; (case N => k_asm); (case m => k_mem); (case z => assumption))
  | (refine' s72_lenG ?F ?h ?z ?_; (case F => k_asm); (case h => assumption); (case z => assumption))
  | (refine' s72_lenT ?F ?h ?z ?_; (case F => k_asm); (case h => assumption); (case z => assumption))); intro tk'))
local macro_rules | `(tactic| walk_at "call builtin:list.pop") => `(tactic| (k_here; (with_reducible show wpAny _ _ (call (Value.builtin _) [Value.ref _]) _ _ _); k_dflt (refine' s72_pop ?F ?N ?U ?z ?_; (case F => k_asm); (case N => k_asm); (case U => k_upd); (case z => assumption)); intro h' F' N'; (try k_sweep)))
local macro_rules | `(tactic| walk_at "call builtin:list.append") => `(tactic| (k_here; (with_reducible show wpAny _ _ (call (Value.builtin _) [Value.ref _, _]) _ _ _); k_dflt (refine' s72_append ?F ?N ?U ?z ?_; (case F => k_asm); (case N => k_asm); (case U => k_upd); (case z => assumption)); intro h' F' N'; (try k_sweep)))
local macro_rules | `(tactic| walk_at "call builtin:list.extend") => `(tactic| (k_here; (with_reducible show wpAny _ _ (call (Value.builtin _) [Value.ref _, Value.ref _]) _ _ _); k_dflt (refine' s72_extend ?F ?N ?m ?U ?z ?_; (case F => k_asm); (case N => k_asm); (case m => k_mem); (case U => k_updF); (case z => assumption)); intro h' n' F' N'; (try dsimp only at N'); (try k_sweep)))
local macro_rules | `(tactic| k_steps) => `(tactic| repeat' (first
  | ((fail_if_success (with_reducible show wpAny _ _ (exec (Stmt.While _ _ _ _) _) _ _ _)); first | (k_unfold; (try dsimp only)) | (k_end; kc_close) | walk1 | (dsimp only; walk1) | (leave1; walk_say "STEP leave1"; (try dsimp only)))
  | fail "no step"))
local macro_rules | `(tactic| k_steps) => `(tactic| repeat' (first
  | ((fail_if_success (with_reducible show wpAny _ _ (exec (Stmt.While _ _ _ _) _) _ _ _)); (fail_if_success (with_reducible show wpAny _ _ (exec (Stmt.For _ _ _ _ _) _) _ _ _)); (fail_if_success (with_reducible show wpAny _ _ (subscriptTail _ _ (Value.ref _) (Value.int _ _)) _ _ _)); first | (k_unfold; (try dsimp only)) | (k_end; kc_close) | walk1 | (dsimp only; walk1) | (leave1; walk_say "STEP leave1"; (try dsimp only)))
  | fail "no step"))
local macro_rules | `(tactic| walk_at "call ref") => `(tactic| (k_here; (with_reducible show wpAny _ _ (call (Value.ref 31) [_, _, _]) _ _ _); k_dflt (refine' node_use ?B ?F ?N ?X ?T ?k ?d ?u ?_; (case B => k_asm); (case F => k_asm); (case N => k_asm); (case X => k_asm); (case T => k_asm); (case k => first | exact rfl | assumption); (case d => ktr_room); (case u => ktr_units)); intro x' dx' t1' t2' t3' t4' n' h' tk' F' N' l1; (try k_sweep)))

/-- the shapes that _law_part builds -/
inductive Part where
  | leaf (k : Nat)
  | nil (tup : Bool)
  | one (tup : Bool) (p : Part)
  | two (tup : Bool) (p : Part)
  | node0 (str : Bool)
  | node1 (str : Bool) (p : Part)
  | node2 (str : Bool) (p : Part)

def leafT (k : Nat) : Tr := if k = 0 then .none else if k = 1 then .bool true else if k = 2 then .int 1 else if k = 3 then .str (Str.ofString "a") else if k = 4 then .str (Str.ofString "1") else .bool false
def leafS (k : Nat) : Str := if k = 0 then Str.ofString "None" else if k = 1 then Str.ofString "True" else if k = 2 then Str.ofString "1" else if k = 3 then Str.ofString "'a'" else if k = 4 then Str.ofString "'1'" else Str.ofString "False"
def seqT (tup : Bool) (ts : List Tr) : Tr := if tup = true then .tuple ts else .list ts
def kindS (str : Bool) : Str := if str = true then Str.ofString "Str" else Str.ofString "Name"
def seqS (tup : Bool) (x : Str) : Str := if tup = true then Str.ofString "(" ++ x ++ Str.ofString ")" else Str.ofString "[" ++ x ++ Str.ofString "]"
def Part.tree : Part → Tr
  | .leaf k => leafT k
  | .nil tup => seqT tup []
  | .one tup p => seqT tup [p.tree]
  | .two tup p => seqT tup [p.tree, .int 1]
  | .node0 str => .node (kindS str) []
  | .node1 str p => .node (kindS str) [p.tree]
  | .node2 str p => .node (kindS str) [.str (Str.ofString "a"), p.tree]
def Part.told : Part → Str
  | .leaf k => leafS k
  | .nil tup => seqS tup (Str.ofString "")
  | .one tup p => seqS tup p.told
  | .two tup p => seqS tup (p.told ++ Str.ofString ",1")
  | .node0 str => kindS str ++ Str.ofString "{" ++ Str.ofString "" ++ Str.ofString "}"
  | .node1 str p => kindS str ++ Str.ofString "{" ++ p.told ++ Str.ofString "}"
  | .node2 str p => kindS str ++ Str.ofString "{" ++ (Str.ofString "'a'," ++ p.told) ++ Str.ofString "}"
def Part.head : Part → Str
  | .leaf k => leafS k
  | .nil tup => if tup = true then Str.ofString "()" else Str.ofString "[]"
  | .one tup _ => if tup = true then Str.ofString "()" else Str.ofString "[]"
  | .two tup _ => if tup = true then Str.ofString "()" else Str.ofString "[]"
  | .node0 str => kindS str
  | .node1 str _ => kindS str
  | .node2 str _ => kindS str
def Part.levels : Part → Nat
  | .leaf _ => 0
  | .nil _ => 0
  | .one _ p => p.levels
  | .two _ p => p.levels
  | .node0 _ => 1
  | .node1 _ p => p.levels + 1
  | .node2 _ p => p.levels + 1
def oddOf (cell : Int) : Bool := !decide ((cell.fdiv 12).fmod 2 = 0)
def partP : Nat → Int → Part
  | 0, cell => .leaf (cell.fmod 6).toNat
  | d + 1, cell =>
    if cell.fmod 12 < 6 then .leaf (cell.fmod 12).toNat
    else if cell.fmod 12 = 6 then .nil (oddOf cell)
    else if cell.fmod 12 = 7 then .one (oddOf cell) (partP d (cell.fdiv 24))
    else if cell.fmod 12 = 8 then .two (oddOf cell) (partP d (cell.fdiv 24))
    else if cell.fmod 12 = 9 then .node0 (oddOf cell)
    else if cell.fmod 12 = 10 then .node1 (oddOf cell) (partP d (cell.fdiv 24))
    else .node2 (oddOf cell) (partP d (cell.fdiv 24))

theorem leafS_pick {t1 t2 t3 t4 t5 t6 : Tok} {x : Value} {k : Nat} (e : [Value.str (Str.ofString "None") t1, .str (Str.ofString "True") t2, .str (Str.ofString "1") t3, .str (Str.ofString "'a'") t4, .str (Str.ofString "'1'") t5, .str (Str.ofString "False") t6][k]? = some x) : ∃ t, x = .str (leafS k) t := by
  match k, e with
  | 0, e => cases e; exact ⟨_, rfl⟩
  | 1, e => cases e; exact ⟨_, rfl⟩
  | 2, e => cases e; exact ⟨_, rfl⟩
  | 3, e => cases e; exact ⟨_, rfl⟩
  | 4, e => cases e; exact ⟨_, rfl⟩
  | 5, e => cases e; exact ⟨_, rfl⟩
  | n + 6, e => simp at e
theorem leafT_pick {w : World} {S : Addr → Obj → Prop} {t1 t2 t3 : Tok} {x : Value} {k : Nat} (e : [Value.none, .bool true, .int 1 t1, .str (Str.ofString "a") t2, .str (Str.ofString "1") t3, .bool false][k]? = some x) : Rep w S x (leafT k) := by
  match k, e with
  | 0, e => cases e; exact .none
  | 1, e => cases e; exact .bool _
  | 2, e => cases e; exact .int _ _
  | 3, e => cases e; exact .str _ _
  | 4, e => cases e; exact .str _ _
  | 5, e => cases e; exact .bool _
  | n + 6, e => simp at e

section
variable {w : World} {mean : ExcName → Option Value} {mg mb : Str → Option Value}
/-- what a call of _law_part yields -/
def PartOut (w : World) (p : Part) (g h' : Heap) (r : Value) : Prop :=
  ∃ a v t1 t2 t3 n, r = .ref a ∧ h'.get? a = some (tupOf (List.toArray [v, .str p.told t1, .str p.head t2, .int (p.levels : Int) t3]) n) ∧ g.get? a = none ∧ Rep w (fun a o => h'.get? a = some o ∧ g.get? a = none) v p.tree

set_option maxHeartbeats 8000000 in
theorem part0_does (cell : Int) (tc : Tok) (l : Value) (td : Tok) : Does w mean mg mb 20 60 68 [.int cell tc, l, .int ((0 : Nat) : Int) td] (fun _ => 0 ≤ cell) (PartOut w (partP 0 cell)) := by
  refine does_of (binds := [(Str.ofString "cell", .int cell tc), (Str.ofString "line", l), (Str.ofString "deep", .int ((0 : Nat) : Int) td)]) (by k_is) (by k_is) (by decide) (fun s => BindsTo.of_eq rfl) (locs rfl) ?_ rfl rfl rfl (by decide)
  intro dp un gd outer A₀ base g L h₁ s Q B F X T hd hu hc hL hret
  have N : News g L h₁ [] := News.nil
  have q1 := Int.fmod_nonneg_of_pos cell (b := 6) (by decide)
  have q2 := Int.fmod_lt_of_pos cell (b := 6) (by decide)
  k_steps
  rename_i F' N' _
  refine s72_pick N' (.head _) q1 q2 (Nat.le_of_ble_eq_true rfl) (fun x e1 => ?_)
  obtain ⟨t1, rfl⟩ := leafS_pick e1
  clear e1
  k_steps
  rename_i F' N' _
  refine s72_pick N' (.head _) q1 q2 (Nat.le_of_ble_eq_true rfl) (fun x e1 => ?_)
  have P := fun S => leafT_pick (w := w) (S := S) e1
  clear e1
  k_steps
  rename_i F' N' _
  exact hret _ _ _ (Fr.keep F') ⟨_, _, _, _, _, _, rfl, (N' _ (.head _)).1, (N' _ (.head _)).2.2, P _⟩
end

end S72

namespace S72
theorem fill_S72PartB (P : Params) : hd.heap_39 P = hd.heap_39 P ∧ Challenge.rw_sz0072_01 = Challenge.rw_sz0072_01 := by
  w_top off
  k_fill
  exact ⟨rfl, rfl⟩
local macro_rules | `(tactic| walk_at "s72 none") => `(tactic| fail "none")
local macro_rules | `(tactic| k_inst) => `(tactic| (refine' s72_inst ?F ?h1 ?h2; (case F => k_asm); (case h1 => assumption); (case h2 => assumption)))
local macro_rules | `(tactic| kit_at) => `(tactic| (refine' s72_at ?F ?h1 ?c; (case F => k_asm); (case h1 => assumption); (case c => exact rfl)))
local macro_rules | `(tactic| k_room) => `(tactic| ktr_room)
local macro_rules | `(tactic| walk_at "call builtin:isinstance") => `(tactic| (k_here; k_dflt (first
  | (refine' isi_Node ?R ?F ?X ?_; (case R => with_reducible assumption); (case F => k_asm); (case X => k_asm); k_whole)
  | (refine' isi_tuple ?R ?F ?X ?_; (case R => with_reducible assumption); (case F => k_asm); (case X => k_asm); k_whole)
  | (refine' isi_bool ?R ?F ?X ?_; (case R => with_reducible assumption); (case F => k_asm); (case X => k_asm); k_whole)
  | (refine' isi_seq ?R ?F ?N ?X ?m ?_; (case R => with_reducible assumption); (case F => k_asm); (case N => k_asm); (case X => k_asm); (case m => k_mem); k_whole)
  | (refine' isi_full ?R ?F ?N ?X ?m ?_; (case R => with_reducible assumption); (case F => k_asm); (case N => k_asm); (case X => k_asm); (case m => k_mem); k_whole)); intro tk'))
local macro_rules | `(tactic| walk_at "call type:list") => `(tactic| (k_here; (with_reducible show wpAny _ _ (call (Value.type _) [Value.ref _]) _ _ _); k_dflt (first
  | (refine' s72_listL ?F ?N ?h ?z ?_; (case F => k_asm); (case N => k_asm); (case h => assumption); (case z => assumption))
  | (refine' s72_listT ?F ?N ?h ?z ?_; (case F => k_asm); (case N => k_asm); (case h => assumption); (case z => assumption))); intro D' c' h' F' N' l1; (try k_lt l1); (try k_sweep)))
local macro_rules | `(tactic| walk_at "subscriptTail Name Slice ref ref") => `(tactic| (k_here; (with_reducible show wpAny _ _ (subscriptTail _ (PySem.Expr.Slice none none (some _) _) (Value.ref _) (Value.ref _)) _ _ _); k_dflt (refine' s72_rev ?F ?N ?m ?k ?z ?_ ?s ?t; (case F => k_asm); (case N => k_asm); (case m => k_mem); (case k => exact IsPart.int _ _); (case s => with_unfolding_all rfl); (case t => kmk_pure); (case z => assumption)); intro D' h' F' N' l1; (try k_lt l1); (try k_sweep)))
local macro_rules | `(tactic| walk_at "call builtin:len") => `(tactic| (k_here; (with_reducible show wpAny _ _ (call (Value.builtin "len") [Value.ref _]) _ _ _); k_dflt (first
  | (refine' s72_len ?N ?m ?z ?_; (case N => k_asm); (case m => k_mem); (case z => assumption))
  | (refine' s72_lenG ?F ?h ?z ?_; (case F => k_asm); (case h => assumption); (case z => assumption))
  | (refine' s72_lenT ?F ?h ?z ?_; (case F => k_asm); (case h => assumption); (case z => assumption))); intro tk'))
local macro_rules | `(tactic| walk_at "call builtin:list.pop") => `(tactic| (k_here; (with_reducible show wpAny _ _ (call (Value.builtin _) [Value.ref _]) _ _ _); k_dflt (refine' s72_pop ?F ?N ?U ?z ?_; (case F => k_asm); (case N => k_asm); (case U => k_upd); (case z => assumption)); intro h' F' N'; (try k_sweep)))
local macro_rules | `(tactic| walk_at "call builtin:list.append") => `(tactic| (k_here; (with_reducible show wpAny _ _ (call (Value.builtin _) [Value.ref _, _]) _ _ _); k_dflt (refine' s72_append ?F ?N ?U ?z ?_; (case F => k_asm); (case N => k_asm); (case U => k_upd); (case z => assumption)); intro h' F' N'; (try k_sweep)))
local macro_rules | `(tactic| walk_at "call builtin:list.extend") => `(tactic| (k_here; (with_reducible show wpAny _ _ (call (Value.builtin _) [Value.ref _, Value.ref _]) _ _ _); k_dflt (refine' s72_extend ?F ?N ?m ?U ?z ?_; (case F => k_asm); (case N => k_asm); (case m => k_mem); (case U => k_updF); (case z => assumption)); intro h' n' F' N'; (try dsimp only at N'); (try k_sweep)))
local macro_rules | `(tactic| k_steps) => `(tactic| repeat' (first
  | ((fail_if_success (with_reducible show wpAny _ _ (exec (Stmt.While _ _ _ _) _) _ _ _)); first | (k_unfold; (try dsimp only)) | (k_end; kc_close) | walk1 | (dsimp only; walk1) | (leave1; walk_say "STEP leave1"; (try dsimp only)))
  | fail "no step"))
local macro_rules | `(tactic| k_steps) => `(tactic| repeat' (first
  | ((fail_if_success (with_reducible show wpAny _ _ (call (Value.ref 68) _) _ _ _)); (fail_if_success (with_reducible show wpAny _ _ (exec (Stmt.While _ _ _ _) _) _ _ _)); (fail_if_success (with_reducible show wpAny _ _ (exec (Stmt.For _ _ _ _ _) _) _ _ _)); (fail_if_success (with_reducible show wpAny _ _ (subscriptTail _ _ (Value.ref _) (Value.int _ _)) _ _ _)); first | (k_unfold; (try dsimp only)) | (k_end; kc_close) | walk1 | (dsimp only; walk1) | (leave1; walk_say "STEP leave1"; (try dsimp only)))
  | fail "no step"))
local macro_rules | `(tactic| walk_at "call ref") => `(tactic| (k_here; (with_reducible show wpAny _ _ (call (Value.ref 31) [_, _, _]) _ _ _); k_dflt (refine' node_use ?B ?F ?N ?X ?T ?k ?d ?u ?_; (case B => k_asm); (case F => k_asm); (case N => k_asm); (case X => k_asm); (case T => k_asm); (case k => first | exact rfl | assumption); (case d => ktr_room); (case u => ktr_units)); intro x' dx' t1' t2' t3' t4' n' h' tk' F' N' l1; (try k_sweep)))

theorem partP_leaf (d : Nat) {cell : Int} (h : cell.fmod 12 < 6) : partP (d + 1) cell = .leaf (cell.fmod 12).toNat := by unfold partP; rw [if_pos h]
theorem partP_nil (d : Nat) {cell : Int} (h : cell.fmod 12 = 6) : partP (d + 1) cell = .nil (oddOf cell) := by
  conv => lhs; unfold partP
  simp [h]
theorem partP_one (d : Nat) {cell : Int} (h : cell.fmod 12 = 7) : partP (d + 1) cell = .one (oddOf cell) (partP d (cell.fdiv 24)) := by
  conv => lhs; unfold partP
  simp [h]
theorem partP_two (d : Nat) {cell : Int} (h : cell.fmod 12 = 8) : partP (d + 1) cell = .two (oddOf cell) (partP d (cell.fdiv 24)) := by
  conv => lhs; unfold partP
  simp [h]
theorem partP_node0 (d : Nat) {cell : Int} (h : cell.fmod 12 = 9) : partP (d + 1) cell = .node0 (oddOf cell) := by
  conv => lhs; unfold partP
  simp [h]
theorem partP_node1 (d : Nat) {cell : Int} (h : cell.fmod 12 = 10) : partP (d + 1) cell = .node1 (oddOf cell) (partP d (cell.fdiv 24)) := by
  conv => lhs; unfold partP
  simp [h]
theorem partP_node2 (d : Nat) {cell : Int} (h : cell.fmod 12 = 11) : partP (d + 1) cell = .node2 (oddOf cell) (partP d (cell.fdiv 24)) := by
  conv => lhs; unfold partP
  simp [h]
theorem odd_no {cell : Int} (h : (cell.fdiv 12).fmod 2 = 0) : oddOf cell = false := by unfold oddOf; rw [h]; rfl
theorem odd_yes {cell : Int} (h : (cell.fdiv 12).fmod 2 ≠ 0) : oddOf cell = true := by unfold oddOf; simp [h]
theorem kind_len (b : Bool) : (kindS b).length ≤ 4 := by cases b <;> decide
theorem part_out {w : World} {p : Part} {g h' : Heap} {L a : Addr} {news : List (Addr × Obj)} {v : Value} {t1 t2 t3 : Tok} {n : Nat} (N : News g L h' news)
    (hm : (a, tupOf (List.toArray [v, .str p.told t1, .str p.head t2, .int (p.levels : Int) t3]) n) ∈ news) (R : Rep w (fun a o => (a, o) ∈ news) v p.tree) : PartOut w p g h' (.ref a) :=
  ⟨a, v, t1, t2, t3, n, rfl, (N _ hm).1, (N _ hm).2.2, R.mono fun _ _ h => ⟨(N _ h).1, (N _ h).2.2⟩⟩
theorem kind_pick {t1 t2 : Tok} {x : Value} {cell : Int} (e : [Value.str (Str.ofString "Name") t1, .str (Str.ofString "Str") t2][((cell.fdiv 12).fmod 2).toNat]? = some x) : ∃ t, x = .str (kindS (oddOf cell)) t := by
  have q4 := Int.fmod_nonneg_of_pos (cell.fdiv 12) (b := 2) (by decide)
  have q5 := Int.fmod_lt_of_pos (cell.fdiv 12) (b := 2) (by decide)
  have h : (cell.fdiv 12).fmod 2 = 0 ∨ (cell.fdiv 12).fmod 2 = 1 := by omega
  unfold oddOf
  rcases h with h | h <;> rw [h] at e ⊢ <;> cases e <;> exact ⟨_, rfl⟩

theorem leafS_len (k : Nat) : (leafS k).length ≤ 5 := by
  unfold leafS
  repeat' split
  all_goals decide
theorem seqS_len (b : Bool) (x : Str) : (seqS b x).length = x.length + 2 := by
  have e1 : (Str.ofString "(").length = 1 := by decide
  have e2 : (Str.ofString ")").length = 1 := by decide
  have e3 : (Str.ofString "[").length = 1 := by decide
  have e4 : (Str.ofString "]").length = 1 := by decide
  unfold seqS
  split <;> rw [Str.length_append, Str.length_append] <;> omega
theorem told_len : ∀ (d : Nat) (cell : Int), (partP d cell).told.length ≤ 5 + 20 * d
  | 0, cell => by
    have := leafS_len (cell.fmod 6).toNat
    simp only [partP, Part.told]
    omega
  | d + 1, cell => by
    have ih := told_len d (cell.fdiv 24)
    have e0 : (Str.ofString "").length = 0 := by decide
    have e1 : (Str.ofString ",1").length = 2 := by decide
    have e2 : (Str.ofString "{").length = 1 := by decide
    have e3 : (Str.ofString "}").length = 1 := by decide
    have e4 : (Str.ofString "'a',").length = 4 := by decide
    have e5 := kind_len (oddOf cell)
    have e6 := leafS_len (cell.fmod 12).toNat
    unfold partP
    split
    · simp only [Part.told]; omega
    · split
      · simp only [Part.told, seqS_len]; omega
      · split
        · simp only [Part.told, seqS_len]; omega
        · split
          · simp only [Part.told, seqS_len, Str.length_append]; omega
          · split
            · simp only [Part.told, Str.length_append]; omega
            · split
              · simp only [Part.told, Str.length_append]; omega
              · simp only [Part.told, Str.length_append]; omega

section
variable {w : World} {mean : ExcName → Option Value} {mg mb : Str → Option Value}
section
variable {dN uN : Nat} {dp un : Nat} {gd : Option (List Code)} {cn : Str} {cs : Scope} {L a : Addr} {ccd : Value} {cl : List (Str × Addr)} {outer : List Env} {A₀ : Around} {base h₀ : Heap} {m : Str → Option Value} {s : Shared} {Q E : Value → Shared → Prop} {news : List (Addr × Obj)} {p : Part} {vs : List Value} {Pre : Heap → Prop}
theorem part_use (D : Does w mean mg mb dN uN 68 vs Pre (PartOut w p)) (B : Below A₀ base outer h₀) (F : Fr h₀ L s.heap m) (N : News h₀ L s.heap news) (X : (hd.heap_39 w.params).In h₀) (T : Top hd.view_39 (looseW hd.view_39 []) mean mg mb h₀) (hk : cs.kind = .function)
    (hd : dp + dN < recursionLimit) (hu : un + uN < cLine) (hp : Pre s.heap)
    (k : ∀ x v t1 t2 t3 n news2 h' tk', Fr h₀ L h' m → News h₀ L h' ((x, tupOf (List.toArray [v, .str p.told t1, .str p.head t2, .int (p.levels : Int) t3]) n) :: (news2 ++ news)) → (∀ q ∈ news, q.1 ≠ x ∧ ∀ q2 ∈ news2, q.1 ≠ q2.1) → Rep w (fun a o => (a, o) ∈ news2) v p.tree → Q (.ref x) { s with heap := h', toks := tk' }) :
    wpAny (model Challenge.rw_sz0072_01.row.prog w) (ktrTop dp un gd cn cs L a ccd cl outer) (call (.ref 68) vs) Q E s := by
  refine does_use D B F N X T hk hd hu hp fun r h' tk' F' N' st P => ?_
  obtain ⟨x, v, t1, t2, t3, n, rfl, hx, fx, R⟩ := P
  obtain ⟨oL, _, _, eL, _⟩ := F.ns
  have ne : ∀ {b : Addr} {y : Addr} {o : Obj}, s.heap.get? y = none → s.heap.get? b = some o → b ≠ y := fun e1 e2 q => by rw [q, e1] at e2; cases e2
  have gn : ∀ {y : Addr}, s.heap.get? y = none → h₀.get? y = none := fun {y} e => by
    cases r : h₀.get? y with
    | none => rfl
    | some o => rw [F.keep _ _ r] at e; cases e
  obtain ⟨all, Na, _, ha⟩ := others h₀ L h'
  refine k x v t1 t2 t3 n (all.filter fun q => (s.heap.get? q.1).isNone) h' tk' F' (fun q hq => ?_) (fun q hq => ⟨ne fx (N q hq).1, fun q2 h2 e => ?_⟩) (R.mono fun b o hb => ?_)
  · rcases List.mem_cons.mp hq with rfl | hq
    · exact ⟨hx, (ne fx eL).symm, gn fx⟩
    · rcases List.mem_append.mp hq with hq | hq
      · exact Na _ (List.mem_filter.mp hq).1
      · exact N' q hq
  · have z := (List.mem_filter.mp h2).2
    rw [← e, (N q hq).1] at z
    cases z
  · refine List.mem_filter.mpr ⟨ha b o hb.1 (fun e => ?_) (gn hb.2), ?_⟩
    · exact ne hb.2 eL e.symm
    · show (s.heap.get? b).isNone = true
      rw [hb.2]; rfl
end
set_option maxHeartbeats 1000000 in
theorem partS_does (d : Nat) (IH : ∀ (cell : Int) (tc : Tok) (l : Value) (td : Tok), Does w mean mg mb (20 + 20 * d) (60 + 60 * d) 68 [.int cell tc, l, .int (d : Int) td] (fun _ => 0 ≤ cell) (PartOut w (partP d cell)))
    (hlen : ∀ cell, (partP d cell).told.length ≤ 1000)
    (cell : Int) (tc : Tok) (l : Value) (e : Int) (td : Tok) (he : 0 < e) (hed : e - 1 = (d : Int)) : Does w mean mg mb (20 + 20 * (d + 1)) (60 + 60 * (d + 1)) 68 [.int cell tc, l, .int e td] (fun _ => 0 ≤ cell) (PartOut w (partP (d + 1) cell)) := by
  refine does_of (binds := [(Str.ofString "cell", .int cell tc), (Str.ofString "line", l), (Str.ofString "deep", .int e td)]) (by k_is) (by k_is) (by omega) (fun s => BindsTo.of_eq rfl) (locs rfl) ?_ rfl rfl rfl (by decide)
  intro dp un gd outer A₀ base g L h₁ s Q B F X T hd hu hc hL hret
  have N : News g L h₁ [] := News.nil
  have q1 := Int.fmod_nonneg_of_pos cell (b := 12) (by decide)
  have q2 := Int.fmod_lt_of_pos cell (b := 12) (by decide)
  have q3 : 0 ≤ cell.fdiv 24 := by rw [Int.fdiv_eq_ediv_of_nonneg _ (by decide)]; omega
  k_steps
  · rename_i h6 _ _ F' N' _
    rw [partP_leaf d h6] at hret
    refine s72_pick N' (.head _) q1 h6 (Nat.le_of_ble_eq_true rfl) (fun x e1 => ?_)
    obtain ⟨t1, rfl⟩ := leafS_pick e1
    clear e1
    k_steps
    rename_i F' N' _
    refine s72_pick N' (.head _) q1 h6 (Nat.le_of_ble_eq_true rfl) (fun x e1 => ?_)
    have P := fun S => leafT_pick (w := w) (S := S) e1
    clear e1
    k_steps
    rename_i F' N' _
    exact hret _ _ _ (Fr.keep F') ⟨_, _, _, _, _, _, rfl, (N' _ (.head _)).1, (N' _ (.head _)).2.2, P _⟩
  · rename_i F' N' h6
    rw [hed]
    refine part_use (IH _ _ _ _) B F' N' X T rfl (by omega) (by omega) q3 fun x v t1 t2 t3 n news2 h' tk' F' N' _ R' => ?_
    rw [List.append_nil] at N'
    have z1 := hlen (cell.fdiv 24)
    generalize hpp : partP d (cell.fdiv 24) = pp at R' N' z1
    k_steps
    · rename_i h9 _ _ _ _ _ _ _ _ F' N' _
      have hf : cell.fmod 12 = 6 ∨ cell.fmod 12 = 7 ∨ cell.fmod 12 = 8 := by omega
      refine s72_pick N' (.head _) (by omega) (by show cell.fmod 12 - 6 < (3 : Int); omega) (Nat.le_of_ble_eq_true rfl) (fun y e1 => ?_)
      rcases hf with hf | hf | hf
      · rw [hf] at e1
        cases e1
        rw [partP_nil d hf] at hret
        k_steps
        rename_i F' N' _
        refine s72_pick N' (.head _) (by omega) (by show cell.fmod 12 - 6 < (3 : Int); omega) (Nat.le_of_ble_eq_true rfl) (fun y e1 => ?_)
        rw [hf] at e1
        cases e1
        k_steps
        all_goals first
          | (exfalso; omega)
          | (rw [odd_no (by assumption)] at hret; rename_i F' N' _; exact hret _ _ _ (Fr.keep F') (part_out N' (.head _) (.list (by k_mem) .nil)))
          | (rw [odd_yes (by assumption)] at hret; rename_i F' N' _; exact hret _ _ _ (Fr.keep F') (part_out N' (.head _) (.tuple (by k_mem) .nil)))
      · rw [hf] at e1
        cases e1
        rw [partP_one d hf, hpp] at hret
        k_steps
        rename_i F' N' _
        refine s72_pick N' (.head _) (by omega) (by show cell.fmod 12 - 6 < (3 : Int); omega) (Nat.le_of_ble_eq_true rfl) (fun y e1 => ?_)
        rw [hf] at e1
        cases e1
        k_steps
        all_goals first
          | (exfalso; omega)
          | (rw [odd_no (by assumption)] at hret; rename_i F' N' _; exact hret _ _ _ (Fr.keep F') (part_out N' (.head _) (.list (by k_mem) (.cons (Rep.mono (fun _ _ h => by repeat' (first | exact h | refine List.Mem.tail _ ?_)) R') .nil))))
          | (rw [odd_yes (by assumption)] at hret; rename_i F' N' _; exact hret _ _ _ (Fr.keep F') (part_out N' (.head _) (.tuple (by k_mem) (.cons (Rep.mono (fun _ _ h => by repeat' (first | exact h | refine List.Mem.tail _ ?_)) R') .nil))))
      · rw [hf] at e1
        cases e1
        rw [partP_two d hf, hpp] at hret
        k_steps
        rename_i F' N' _
        refine s72_pick N' (.head _) (by omega) (by show cell.fmod 12 - 6 < (3 : Int); omega) (Nat.le_of_ble_eq_true rfl) (fun y e1 => ?_)
        rw [hf] at e1
        cases e1
        k_steps
        all_goals first
          | (exfalso; omega)
          | (rw [odd_no (by assumption)] at hret; rename_i F' N' _; exact hret _ _ _ (Fr.keep F') (part_out N' (.head _) (.list (by k_mem) (.cons (Rep.mono (fun _ _ h => by repeat' (first | exact h | refine List.Mem.tail _ ?_)) R') (.cons (.int _ _) .nil)))))
          | (rw [odd_yes (by assumption)] at hret; rename_i F' N' _; exact hret _ _ _ (Fr.keep F') (part_out N' (.head _) (.tuple (by k_mem) (.cons (Rep.mono (fun _ _ h => by repeat' (first | exact h | refine List.Mem.tail _ ?_)) R') (.cons (.int _ _) .nil)))))
    · rename_i h9 _ _ F' N' _
      have q4 := Int.fmod_nonneg_of_pos (cell.fdiv 12) (b := 2) (by decide)
      have q5 := Int.fmod_lt_of_pos (cell.fdiv 12) (b := 2) (by decide)
      refine s72_pick N' (.head _) (by omega) (by show (cell.fdiv 12).fmod 2 < (2 : Int); omega) (Nat.le_of_ble_eq_true rfl) (fun y e1 => ?_)
      obtain ⟨t5, rfl⟩ := kind_pick e1
      have z2 := kind_len (oddOf cell)
      clear e1
      have hf : cell.fmod 12 = 9 ∨ cell.fmod 12 = 10 ∨ cell.fmod 12 = 11 := by omega
      k_steps
      rename_i F' N' _
      refine s72_pick N' (.head _) (by omega) (by show cell.fmod 12 - 9 < (3 : Int); omega) (Nat.le_of_ble_eq_true rfl) (fun y e1 => ?_)
      rcases hf with hf | hf | hf
      · rw [hf] at e1
        cases e1
        rw [partP_node0 d hf] at hret
        k_steps
        rename_i F' N' _
        refine s72_pick N' (.head _) (by omega) (by show cell.fmod 12 - 9 < (3 : Int); omega) (Nat.le_of_ble_eq_true rfl) (fun y e1 => ?_)
        rw [hf] at e1
        cases e1
        k_steps
        all_goals first
          | (exfalso; omega)
          | (rename_i F' N' _; exact hret _ _ _ (Fr.keep F') (part_out N' (.head _) (.node (by k_mem) (by k_mem) (by k_mem) .nil)))
      · rw [hf] at e1
        cases e1
        rw [partP_node1 d hf, hpp] at hret
        k_steps
        rename_i F' N' _
        refine s72_pick N' (.head _) (by omega) (by show cell.fmod 12 - 9 < (3 : Int); omega) (Nat.le_of_ble_eq_true rfl) (fun y e1 => ?_)
        rw [hf] at e1
        cases e1
        k_steps
        all_goals first
          | (exfalso; omega)
          | (rename_i F' N' _; exact hret _ _ _ (Fr.keep F') (part_out N' (.head _) (.node (by k_mem) (by k_mem) (by k_mem) (.cons (Rep.mono (fun _ _ h => by repeat' (first | exact h | refine List.Mem.tail _ ?_)) R') .nil))))
      · rw [hf] at e1
        cases e1
        rw [partP_node2 d hf, hpp] at hret
        k_steps
        rename_i F' N' _
        refine s72_pick N' (.head _) (by omega) (by show cell.fmod 12 - 9 < (3 : Int); omega) (Nat.le_of_ble_eq_true rfl) (fun y e1 => ?_)
        rw [hf] at e1
        cases e1
        k_steps
        all_goals first
          | (exfalso; omega)
          | (rename_i F' N' _; exact hret _ _ _ (Fr.keep F') (part_out N' (.head _) (.node (by k_mem) (by k_mem) (by k_mem) (.cons (.str _ _) (.cons (Rep.mono (fun _ _ h => by repeat' (first | exact h | refine List.Mem.tail _ ?_)) R') .nil)))))
theorem part_does : ∀ (d : Nat), d ≤ 40 → ∀ (cell : Int) (tc : Tok) (l : Value) (td : Tok), Does w mean mg mb (20 + 20 * d) (60 + 60 * d) 68 [.int cell tc, l, .int (d : Int) td] (fun _ => 0 ≤ cell) (PartOut w (partP d cell))
  | 0, _, cell, tc, l, td => part0_does cell tc l td
  | d + 1, h, cell, tc, l, td => partS_does d (part_does d (by omega)) (fun c => Nat.le_trans (told_len d c) (by omega)) cell tc l _ td (by omega) (by omega)
end

end S72

namespace S72
theorem fill_S72Enum (P : Params) : hd.heap_39 P = hd.heap_39 P ∧ Challenge.rw_sz0072_01 = Challenge.rw_sz0072_01 := by
  w_top off
  k_fill
  exact ⟨rfl, rfl⟩
/-- how a turn of a loop over an enumerated list ends -/
def EnumEnd (g : Heap) (L e it lst : Addr) (oe oi o : Obj) (s : Shared) (J : (Str → Option Value) → List (Addr × Obj) → Prop) (Q : Flow → Shared → Prop) (f : Flow) (s' : Shared) : Prop :=
  match f with
  | .next | .cont => ∃ h' tk' m₂ news₂, s' = { s with heap := h', toks := tk' } ∧ Fr g L h' m₂ ∧ News g L h' ((e, oe) :: (it, oi) :: (lst, o) :: news₂) ∧ (∀ q ∈ news₂, q.1 ≠ e ∧ q.1 ≠ it) ∧ J m₂ news₂
  | .brk => Q .next s'
  | .ret v => Q (.ret v) s'
section
variable {g h h' : Heap} {L e it : Addr} {m : Str → Option Value} {news : List (Addr × Obj)}
theorem fr_but2 (F : Fr g L h m) (hk : ∀ b o, b ≠ e → b ≠ it → h.get? b = some o → h'.get? b = some o) (he : e ≠ L) (hi : it ≠ L) (ge : g.get? e = none) (gi : g.get? it = none) : Fr g L h' m := by
  obtain ⟨oL, es, ep, eL, rL⟩ := F.ns
  refine ⟨⟨oL, es, ep, hk _ _ he.symm hi.symm eL, rL⟩, fun b o x => hk _ _ (fun q => ?_) (fun q => ?_) (F.keep b o x), F.above⟩
  · rw [q, ge] at x; cases x
  · rw [q, gi] at x; cases x
theorem news_but2 (N : News g L h news) (hk : ∀ b o, b ≠ e → b ≠ it → h.get? b = some o → h'.get? b = some o) (ne : ∀ q ∈ news, q.1 ≠ e ∧ q.1 ≠ it) : News g L h' news :=
  fun q hq => ⟨hk _ _ (ne q hq).1 (ne q hq).2 (N q hq).1, (N q hq).2⟩
end
section
variable {prog : Program} {w : World} {A : Around} {E : Value → Shared → Prop} {s : Shared} {g : Heap} {env : Env} {m : Str → Option Value} {news : List (Addr × Obj)} {Q : Flow → Shared → Prop} {xi xv : Str} {pi pv pt : Pos} {x1 : Nat} {body : List Stmt} {lst : Addr} {vs : List Value} {n : Nat}

theorem enum_iter (J : Nat → (Str → Option Value) → List (Addr × Obj) → Prop) (hh : A.handled = none) (hxi : env.kindOf xi = some .local) (hxv : env.kindOf xv = some .local) (hp : (env.scope.kind == .class || (env.scope.kind == .module && env.locals != env.globals)) = false)
    (F : Fr g env.locals s.heap m) (N : News g env.locals s.heap ((lst, listOf vs.toArray n) :: news)) (hJ : J 0 m news)
    (turn : ∀ e it oe oi i v tk m₁ news₁ h tk', (∀ q ∈ news₁, q.1 ≠ e ∧ q.1 ≠ it) → oe.cls = .type "enumerate" → oi.cls = .type "list_iterator" → vs[i]? = some v → J i m₁ news₁ →
      Fr g env.locals h (fun y => if y = xv then some v else if y = xi then some (.int (i : Int) tk) else m₁ y) → News g env.locals h ((e, oe) :: (it, oi) :: (lst, listOf vs.toArray n) :: news₁) →
      wpAny (model prog w) A (execs body env) (EnumEnd g env.locals e it lst oe oi (listOf vs.toArray n) s (J (i + 1)) Q) (fun _ _ => False) { s with heap := h, toks := tk' })
    (done : ∀ m₁ news₁ h tk, J vs.length m₁ news₁ → Fr g env.locals h m₁ → News g env.locals h ((lst, listOf vs.toArray n) :: news₁) → Q .next { s with heap := h, toks := tk }) :
    wpAny (model prog w) A (call (.type "enumerate") [.ref lst]) (fun x s₁ => wpAny (model prog w) A (pyIter x) (fun it s₂ => codeAny (model prog w) A (.forLoop (.Tuple [.Name xi pi, .Name xv pv] x1 pt) it body [] env) (fun r s' => match r with | .ok f => Q f s' | .error e => cameBackBy (model prog w) A env E e s') s₂) E s₁) E s := by
  have hl := (N _ (.head _)).1
  have hls : s.heap.IsList lst vs.toArray := ⟨_, hl, rfl, _, rfl⟩
  obtain ⟨oL, _, _, eL, _⟩ := F.ns
  have lt : ∀ q ∈ (lst, listOf vs.toArray n) :: news, q.1 < s.heap.objs.size := fun q hq => Heap.lt_size (N q hq).1
  have Llt := Heap.lt_size eL
  have gn : ∀ k, g.get? (s.heap.objs.size + k) = none := fun k => by
    cases r : g.get? (s.heap.objs.size + k) with
    | none => rfl
    | some o => exact absurd (Heap.lt_size (F.keep _ _ r)) (Nat.not_lt.mpr (Nat.le_add_right _ _))
  have gi : g.get? s.heap.objs.size = none := gn 0
  have ge := gn 1
  clear gn
  refine call_enumerate_list hls fun h₀ he hit hz hk => ?_
  have hlst := hk _ _ hl
  generalize hit_e : s.heap.objs.size = it at *
  generalize he_e : it + 1 = e at *
  have hei : e ≠ it := by omega
  have heL : e ≠ env.locals := Nat.ne_of_gt (he_e ▸ Nat.lt_succ_of_lt Llt)
  have hiL : it ≠ env.locals := Nat.ne_of_gt Llt
  refine wpAny_pyIter_enum he ?_
  refine codeAny_forLoop_any (fun k s' => ∃ h tk m₁ news₁ i old, s' = { s with heap := h, toks := tk } ∧ i ≤ vs.length ∧ k = vs.length - i ∧ Fr g env.locals h m₁ ∧ News g env.locals h ((lst, listOf vs.toArray n) :: news₁) ∧
      (∀ q ∈ (lst, listOf vs.toArray n) :: news₁, q.1 ≠ e ∧ q.1 ≠ it) ∧ IsEnum h e it ((i : Nat) : Int) old ∧ h.IsListIter it lst i ∧ J i m₁ news₁) ?_ vs.length
    ⟨h₀, s.toks, m, news, 0, .none, rfl, Nat.zero_le _, rfl, F.keeps hk, N.grown hk, fun q hq => ?_, he, hit, hJ⟩
  rotate_left
  · exact ⟨Nat.ne_of_lt (he_e ▸ Nat.lt_succ_of_lt (lt q hq)), Nat.ne_of_lt (lt q hq)⟩
  rintro k s' ⟨H, tk, m₁, news₁, i, old, rfl, hi, rfl, F₁, N₁, ne₁, he₁, hit₁, J₁⟩
  have hl₁ : H.IsList lst vs.toArray := ⟨_, (N₁ _ (.head _)).1, rfl, _, rfl⟩
  by_cases hlt : i < vs.length
  · have heH : e < H.objs.size := Heap.lt_size he₁
    refine wpAny_noRaise (wpAny_pyNext_enum_item he₁ hit₁ hl₁ (x := vs[i]) (by simp [hlt]) hei fun h₁ heo hit₂ ht₁ hz₁ hk₁ => ?_)
    have F₂ := fr_but2 F₁ hk₁ heL hiL ge gi
    have N₂ := news_but2 N₁ hk₁ ne₁
    refine wpAny_letOwnedTupleGo_enum heo fun h₂ he₂ hs₂ => ?_
    replace hs₂ : Heap.SameBut e h₁ h₂ := hs₂
    have F₃ := F₂.change hs₂ heL ge
    have N₃ : News g env.locals h₂ ((lst, listOf vs.toArray n) :: news₁) := fun q hq => ⟨(hs₂.2 _ (ne₁ q hq).1).trans (N₂ q hq).1, (N₂ q hq).2⟩
    have ht₂ : h₂.IsTuple H.objs.size #[.int i tk, vs[i]] := ⟨_, (hs₂.2 _ (Nat.ne_of_gt heH)).trans ht₁, rfl, _, rfl⟩
    have hit₃ : h₂.IsListIter it lst (i + 1) := hit₂.extBut hs₂.extBut (Ne.symm hei)
    refine wpAny_assign_Tuple hh ht₂ rfl rfl fun h₃ hx₃ => ?_
    replace hx₃ : Heap.ExtBut h₂.objs.size h₂ h₃ := hx₃
    have up₃ : ∀ b o, h₂.get? b = some o → h₃.get? b = some o := fun b o x => hx₃ b o (Nat.ne_of_lt (Heap.lt_size x)) x
    have F₄ := F₃.keeps up₃
    have N₄ := N₃.grown up₃
    have he₄ := up₃ _ _ he₂
    obtain ⟨oi, hoi, hoc, hod⟩ := hit₃
    have hoi₄ := up₃ _ _ hoi
    show wpAny _ A (do holding [vs[i]] (assign (.Name xi pi) env (.int i tk)); do holding [] (assign (.Name xv pv) env vs[i]); pure ()) _ _ _
    refine wpAny_bind (wpAny_holding (wpAny_assign_Name (wpAny_storeName_local hxi F₄.ns (fun h₄ hn₄ hs₄ => ?_) hp)))
    replace hs₄ : Heap.SameBut env.locals h₃ h₄ := hs₄
    have F₅ := F₄.set hn₄ hs₄
    have N₅ := N₄.set hs₄
    refine wpAny_bind (wpAny_holding (wpAny_assign_Name (wpAny_storeName_local hxv F₅.ns (fun h₅ hn₅ hs₅ => wpAny_pure ?_) hp)))
    replace hs₅ : Heap.SameBut env.locals h₄ h₅ := hs₅
    have F₆ := F₅.set hn₅ hs₅
    have N₆ := N₅.set hs₅
    have he₆ : IsEnum h₅ e it ((i : Int) + 1) vs[i] := (hs₅.2 e heL).trans ((hs₄.2 e heL).trans he₄)
    obtain ⟨oe, hoe, hcls, hall⟩ : ∃ oe : Obj, h₅.get? e = some oe ∧ oe.cls = .type "enumerate" ∧ ∀ H' : Heap, H'.get? e = some oe → IsEnum H' e it (((i + 1 : Nat)) : Int) vs[i] :=
      ⟨_, he₆, rfl, fun H' x => by
        have c : ((i + 1 : Nat) : Int) = (i : Int) + 1 := by push_cast; rfl
        rw [c]; exact x⟩
    have hoi₆ : h₅.get? it = some oi := (hs₅.2 it hiL).trans ((hs₄.2 it hiL).trans hoi₄)
    refine wpAny_noRaise (wpAny_mono (turn e it oe oi i vs[i] tk m₁ news₁ h₅ _ (fun q hq => ne₁ q (.tail _ hq)) hcls hoc (by simp [hlt]) J₁ F₆ (fun q hq => ?_)) (fun f s₄ hf => ?_) fun _ _ x => x)
    · rcases List.mem_cons.mp hq with rfl | hq
      · exact ⟨hoe, heL, ge⟩
      · rcases List.mem_cons.mp hq with rfl | hq
        · exact ⟨hoi₆, hiL, gi⟩
        · exact N₆ q hq
    · have fin : (∃ h' tk' m₂ news₂, s₄ = { s with heap := h', toks := tk' } ∧ Fr g env.locals h' m₂ ∧ News g env.locals h' ((e, oe) :: (it, oi) :: (lst, listOf vs.toArray n) :: news₂) ∧ (∀ q ∈ news₂, q.1 ≠ e ∧ q.1 ≠ it) ∧ J (i + 1) m₂ news₂) →
          ∃ m, m < vs.length - i ∧ ∃ h tk m₁ news₁ i old, s₄ = { s with heap := h, toks := tk } ∧ i ≤ vs.length ∧ m = vs.length - i ∧ Fr g env.locals h m₁ ∧ News g env.locals h ((lst, listOf vs.toArray n) :: news₁) ∧
            (∀ q ∈ (lst, listOf vs.toArray n) :: news₁, q.1 ≠ e ∧ q.1 ≠ it) ∧ IsEnum h e it ((i : Nat) : Int) old ∧ h.IsListIter it lst i ∧ J i m₁ news₁ := by
        rintro ⟨h', tk', m₂, news₂, eq, F', N', ne', J'⟩
        refine ⟨vs.length - (i + 1), by omega, h', tk', m₂, news₂, i + 1, vs[i], eq, hlt, rfl, F', fun q hq => N' q (.tail _ (.tail _ hq)), fun q hq => ?_, hall _ (N' _ (.head _)).1, ⟨oi, (N' _ (.tail _ (.head _))).1, hoc, hod⟩, J'⟩
        rcases List.mem_cons.mp hq with rfl | hq
        · exact ne₁ _ (.head _)
        · exact ne' q hq
      cases f with
      | next => exact fin hf
      | cont => exact fin hf
      | brk => exact hf
      | ret v => exact hf
  · have he2 : i = vs.length := by omega
    subst he2
    refine wpAny_noRaise (wpAny_pyNext_enum_end hh he₁ hit₁ hl₁ (by simp) fun h₂ ext => ?_)
    refine wpAny_execs_nil ?_
    have kk : ∀ b o, b ≠ e → b ≠ it → H.get? b = some o → h₂.get? b = some o := fun b o _ hb x => ext b o hb x
    exact done m₁ news₁ h₂ tk J₁ (fr_but2 F₁ kk heL hiL ge gi) (news_but2 N₁ kk ne₁)
end
end S72

namespace S72
theorem fill_S72Tail (P : Params) : hd.heap_39 P = hd.heap_39 P ∧ Challenge.rw_sz0072_01 = Challenge.rw_sz0072_01 := by
  w_top off
  k_fill
  exact ⟨rfl, rfl⟩
section
variable {w : World} {mean : ExcName → Option Value} {mg mb : Str → Option Value} {dN uN : Nat} {f : Addr} {vs : List Value} {Pre : Heap → Prop} {Post : Heap → Heap → Value → Prop}
  {dp un : Nat} {gd : Option (List Code)} {cn : Str} {cs : Scope} {L a : Addr} {ccd : Value} {cl : List (Str × Addr)} {outer : List Env} {A₀ : Around} {base h₀ : Heap} {m : Str → Option Value} {s : Shared} {Q E : Value → Shared → Prop} {es rest : List (Addr × Obj)}
theorem tail_use (es : List (Addr × Obj)) (D : Does w mean mg mb dN uN f vs Pre Post) (B : Below A₀ base outer h₀) (F : Fr h₀ L s.heap m) (N : News h₀ L s.heap (es ++ rest)) (X : (hd.heap_39 w.params).In h₀) (T : Top hd.view_39 (looseW hd.view_39 []) mean mg mb h₀) (hk : cs.kind = .function)
    (hd : dp + dN < recursionLimit) (hu : un + uN < cLine) (hp : Pre s.heap)
    (ret : ∀ r h' tk' rest2, Fr h₀ L h' m → (∀ q ∈ rest, q ∈ rest2) → News h₀ L h' (es ++ rest2) → Post s.heap h' r → (∀ a o, h'.get? a = some o → s.heap.get? a = none → (a, o) ∈ rest2) → (∀ q ∈ rest2, q ∈ rest ∨ ∀ p ∈ es ++ rest, q.1 ≠ p.1) → Q r { s with heap := h', toks := tk' }) :
    wpAny (model Challenge.rw_sz0072_01.row.prog w) (ktrTop dp un gd cn cs L a ccd cl outer) (call (.ref f) vs) Q E s := by
  refine does_use D B F N X T hk hd hu hp fun r h' tk' F' N' st P => ?_
  obtain ⟨oL, _, _, eL, _⟩ := F.ns
  have gn : ∀ {y : Addr}, s.heap.get? y = none → h₀.get? y = none := fun {y} e => by
    cases r : h₀.get? y with
    | none => rfl
    | some o => rw [F.keep _ _ r] at e; cases e
  obtain ⟨all, Na, _, ha⟩ := others h₀ L h'
  refine ret r h' tk' (rest ++ all.filter fun q => (s.heap.get? q.1).isNone) F' (fun q hq => List.mem_append_left _ hq) (fun q hq => ?_) P (fun a o e1 e2 => ?_) fun q hq => ?_
  · rcases List.mem_append.mp hq with hq | hq
    · exact N' q (List.mem_append_left _ hq)
    · rcases List.mem_append.mp hq with hq | hq
      · exact N' q (List.mem_append_right _ hq)
      · exact Na _ (List.mem_filter.mp hq).1
  · refine List.mem_append_right _ (List.mem_filter.mpr ⟨ha a o e1 (fun e => ?_) (gn e2), ?_⟩)
    · rw [e, eL] at e2; cases e2
    · show (s.heap.get? a).isNone = true
      rw [e2]; rfl
  · rcases List.mem_append.mp hq with hq | hq
    · exact .inl hq
    · refine .inr fun p hp e => ?_
      have z := (List.mem_filter.mp hq).2
      rw [e, (N p hp).1] at z
      cases z
theorem part_tail {c : Int} {tc td : Tok} {l : Value} (es : List (Addr × Obj)) (B : Below A₀ base outer h₀) (F : Fr h₀ L s.heap m) (N : News h₀ L s.heap (es ++ rest)) (X : (S72.hd.heap_39 w.params).In h₀) (T : Top S72.hd.view_39 (looseW S72.hd.view_39 []) mean mg mb h₀) (hk : cs.kind = .function)
    (hd : dp + 80 < recursionLimit) (hu : un + 240 < cLine) (hp : 0 ≤ c)
    (k : ∀ x v t1 t2 t3 n rest2 h' tk', Fr h₀ L h' m → (∀ q ∈ rest, q ∈ rest2) → News h₀ L h' ((x, tupOf (List.toArray [v, .str (partP 3 c).told t1, .str (partP 3 c).head t2, .int ((partP 3 c).levels : Int) t3]) n) :: (es ++ rest2)) → Rep w (fun a o => (a, o) ∈ rest2) v (partP 3 c).tree → (∀ q ∈ rest2, q ∈ rest ∨ ∀ p ∈ es ++ rest, q.1 ≠ p.1) → (∀ p ∈ es ++ rest, x ≠ p.1) → Q (.ref x) { s with heap := h', toks := tk' }) :
    wpAny (model Challenge.rw_sz0072_01.row.prog w) (ktrTop dp un gd cn cs L a ccd cl outer) (call (.ref 68) [.int c tc, l, .int 3 td]) Q E s := by
  refine tail_use es (part_does 3 (by decide) c tc l td) B F N X T hk hd hu hp fun r h' tk' rest2 F' sub N' P new frs => ?_
  obtain ⟨x, v, t1, t2, t3, n, rfl, hx, fx, R⟩ := P
  refine k x v t1 t2 t3 n rest2 h' tk' F' sub (fun q hq => ?_) (R.mono fun a o h => new a o h.1 h.2) frs fun p hp e => by rw [e, (N p hp).1] at fx; cases fx
  rcases List.mem_cons.mp hq with rfl | hq
  · exact N' _ (List.mem_append_right _ (new _ _ hx fx))
  · exact N' q hq
theorem around_tail {c : Int} {tc : Tok} {v l : Value} {t : Tr} (es : List (Addr × Obj)) (B : Below A₀ base outer h₀) (F : Fr h₀ L s.heap m) (N : News h₀ L s.heap (es ++ rest)) (X : (S72.hd.heap_39 w.params).In h₀) (T : Top S72.hd.view_39 (looseW S72.hd.view_39 []) mean mg mb h₀) (hk : cs.kind = .function)
    (hd : dp + 20 < recursionLimit) (hu : un + 150 < cLine) (hp : 0 ≤ c) (R : Rep w (fun a o => (a, o) ∈ rest) v t)
    (k : ∀ r rest2 h' tk', Fr h₀ L h' m → (∀ q ∈ rest, q ∈ rest2) → News h₀ L h' (es ++ rest2) → Rep w (fun a o => (a, o) ∈ rest2) r (wrapAll (formsOf c) t) → (∀ q ∈ rest2, q ∈ rest ∨ ∀ p ∈ es ++ rest, q.1 ≠ p.1) → Q r { s with heap := h', toks := tk' }) :
    wpAny (model Challenge.rw_sz0072_01.row.prog w) (ktrTop dp un gd cn cs L a ccd cl outer) (call (.ref 75) [.int c tc, v, l]) Q E s := by
  refine tail_use es (around_does (S := fun a o => (a, o) ∈ rest) c tc v l t) B F N X T hk hd hu ⟨R, fun a o h => (N _ (List.mem_append_right _ h)).1, hp⟩ fun r h' tk' rest2 F' sub N' P new frs => ?_
  exact k r rest2 h' tk' F' sub N' (P.mono fun a o h => h.2.elim (fun z => sub _ z) (fun z => new _ _ h.1 z)) frs
end

section
variable {w : World} {mean : ExcName → Option Value} {mg mb : Str → Option Value}
  {dp un : Nat} {gd : Option (List Code)} {cn : Str} {cs : Scope} {L a : Addr} {ccd : Value} {cl : List (Str × Addr)} {outer : List Env} {A₀ : Around} {base h₀ : Heap} {m : Str → Option Value} {s : Shared} {Q E : Value → Shared → Prop} {news : List (Addr × Obj)}
theorem high_tail {v : Value} {k : Str} {ks : List Tr} {most : Int} {tm : Tok} (b : Bool) (B : Below A₀ base outer h₀) (F : Fr h₀ L s.heap m) (N : News h₀ L s.heap news) (X : (S72.hd.heap_39 w.params).In h₀) (T : Top S72.hd.view_39 (looseW S72.hd.view_39 []) mean mg mb h₀) (hk : cs.kind = .function)
    (hd : dp + 20 < recursionLimit) (hu : un + 150 < cLine) (R : Rep w (fun a o => (a, o) ∈ news) v (.node k ks)) (hz : (Tr.node k ks).size ≤ 1000000) (hb : b = true ↔ most < ((Tr.node k ks).hgt : Int))
    (kont : ∀ h' tk', Fr h₀ L h' m → News h₀ L h' news → Q (.bool b) { s with heap := h', toks := tk' }) :
    wpAny (model Challenge.rw_sz0072_01.row.prog w) (ktrTop dp un gd cn cs L a ccd cl outer) (call (.ref 47) [v, .int most tm]) Q E s := by
  refine does_use (high_does v k ks most tm) B F N X T hk hd hu ⟨R.mono fun a o h => (N _ h).1, hz⟩ fun r h' tk' F' N' _ P => ?_
  obtain ⟨b', rfl, hb'⟩ := P
  have e : b' = b := Bool.eq_iff_iff.mpr (hb'.trans hb.symm)
  subst e
  exact kont h' tk' F' N'
theorem same_tail {v₁ v₂ : Value} {t₁ t₂ : Tr} (b : Bool) (B : Below A₀ base outer h₀) (F : Fr h₀ L s.heap m) (N : News h₀ L s.heap news) (X : (S72.hd.heap_39 w.params).In h₀) (T : Top S72.hd.view_39 (looseW S72.hd.view_39 []) mean mg mb h₀) (hk : cs.kind = .function)
    (hd : dp + 20 < recursionLimit) (hu : un + 150 < cLine) (R₁ : Rep w (fun a o => (a, o) ∈ news) v₁ t₁) (R₂ : Rep w (fun a o => (a, o) ∈ news) v₂ t₂) (hz : t₁.size + t₂.size ≤ 1000000) (hb : b = true ↔ t₁ = t₂)
    (kont : ∀ h' tk', Fr h₀ L h' m → News h₀ L h' news → Q (.bool b) { s with heap := h', toks := tk' }) :
    wpAny (model Challenge.rw_sz0072_01.row.prog w) (ktrTop dp un gd cn cs L a ccd cl outer) (call (.ref 61) [v₁, v₂]) Q E s := by
  refine does_use (tree_does v₁ v₂ t₁ t₂) B F N X T hk hd hu ⟨R₁.mono fun a o h => (N _ h).1, R₂.mono fun a o h => (N _ h).1, hz⟩ fun r h' tk' F' N' _ P => ?_
  obtain ⟨b', rfl, hb'⟩ := P
  have e : b' = b := Bool.eq_iff_iff.mpr (hb'.trans hb.symm)
  subst e
  exact kont h' tk' F' N'
theorem kind_tail {v₁ v₂ : Value} {t₁ t₂ : Tr} (B : Below A₀ base outer h₀) (F : Fr h₀ L s.heap m) (N : News h₀ L s.heap news) (X : (S72.hd.heap_39 w.params).In h₀) (T : Top S72.hd.view_39 (looseW S72.hd.view_39 []) mean mg mb h₀) (hk : cs.kind = .function)
    (hd : dp + 9 < recursionLimit) (hu : un + 60 < cLine) (R₁ : Rep w (fun a o => (a, o) ∈ news) v₁ t₁) (R₂ : Rep w (fun a o => (a, o) ∈ news) v₂ t₂)
    (kont : ∀ h' tk', Fr h₀ L h' m → News h₀ L h' news → Q (.bool (sameKind t₁ t₂)) { s with heap := h', toks := tk' }) :
    wpAny (model Challenge.rw_sz0072_01.row.prog w) (ktrTop dp un gd cn cs L a ccd cl outer) (call (.ref 54) [v₁, v₂]) Q E s := by
  refine does_use (kind_does v₁ v₂ t₁ t₂) B F N X T hk hd hu ⟨R₁.mono fun a o h => (N _ h).1, R₂.mono fun a o h => (N _ h).1⟩ fun r h' tk' F' N' _ P => ?_
  subst P
  exact kont h' tk' F' N'
end

theorem prog_rep {w : World} {g h : Heap} {L : Addr} {news rest : List (Addr × Obj)} {x dx p q : Addr} {tk t1 t2 t3 t4 : Tok} {l wv : Value} {n n1 n2 : Nat} {t : Tr} (_N : News g L h news)
    (hx : (x, instObj 31 dx) ∈ news) (hdx : (dx, dictOf (nodeEs w (.str (Str.ofString "Program") tk) l (.ref p) t1 t2 t3 t4) n) ∈ news) (hp : (p, listOf (List.toArray [Value.ref q, .bool false]) n1) ∈ news) (hq : (q, listOf (List.toArray [wv]) n2) ∈ news)
    (R : Rep w (fun a o => (a, o) ∈ rest) wv t) (sub : ∀ z ∈ rest, z ∈ news) : Rep w (fun a o => (a, o) ∈ news) (.ref x) (.node (Str.ofString "Program") [.list [t], .bool false]) :=
  .node hx hdx hp (.cons (.list hq (.cons (R.mono fun a o h => sub (a, o) h) .nil)) (.cons (.bool _) .nil))
/-- no iterator -/
def noIter (o : Obj) : Bool := !decide (o.cls = .type "list_iterator") && !decide (o.cls = .type "enumerate")
mutual
theorem Rep.clean {w : World} {S : Addr → Obj → Prop} : ∀ {v : Value} {t : Tr}, Rep w S v t → Rep w (fun a o => S a o ∧ noIter o = true) v t
  | _, _, .none => .none
  | _, _, .bool b => .bool b
  | _, _, .int i t => .int i t
  | _, _, .str x t => .str x t
  | _, _, .list a r => .list ⟨a, by simp [noIter]⟩ (RepL.clean r)
  | _, _, .tuple a r => .tuple ⟨a, by simp [noIter]⟩ (RepL.clean r)
  | _, _, .node a b c r => .node ⟨a, by simp [noIter, instObj]⟩ ⟨b, by simp [noIter, dictOf]⟩ ⟨c, by simp [noIter]⟩ (RepL.clean r)
theorem RepL.clean {w : World} {S : Addr → Obj → Prop} : ∀ {vs : List Value} {ts : List Tr}, RepL w S vs ts → RepL w (fun a o => S a o ∧ noIter o = true) vs ts
  | _, _, .nil => .nil
  | _, _, .cons a r => .cons (Rep.clean a) (RepL.clean r)
end
/-- a row: the part, its text, its head, the part in its surroundings -/
def RowIs (w : World) (S : Addr → Obj → Prop) (c3 c : Int) (v : Value) : Prop :=
  ∃ a pv t1 t2 wv n, v = .ref a ∧ S a (tupOf (List.toArray [pv, .str (partP 3 c).told t1, .str (partP 3 c).head t2, wv]) n) ∧ Rep w S pv (partP 3 c).tree ∧ Rep w S wv (wrapAll (formsOf c3) (partP 3 c).tree)
theorem RowIs.mono {w : World} {S S' : Addr → Obj → Prop} {c3 c : Int} {v : Value} (h : ∀ a o, S a o → S' a o) (R : RowIs w S c3 c v) : RowIs w S' c3 c v := by
  obtain ⟨a, pv, t1, t2, wv, n, e, ha, r1, r2⟩ := R
  exact ⟨a, pv, t1, t2, wv, n, e, h _ _ ha, r1.mono h, r2.mono h⟩
theorem RowIs.clean {w : World} {S : Addr → Obj → Prop} {c3 c : Int} {v : Value} (R : RowIs w S c3 c v) : RowIs w (fun a o => S a o ∧ noIter o = true) c3 c v := by
  obtain ⟨a, pv, t1, t2, wv, n, e, ha, r1, r2⟩ := R
  exact ⟨a, pv, t1, t2, wv, n, e, ⟨ha, by simp [noIter]⟩, r1.clean, r2.clean⟩
def RowsOk (w : World) (S : Addr → Obj → Prop) (c3 : Int) (rv : List Value) : Prop := ∀ v ∈ rv, ∃ c, RowIs w S c3 c v
theorem led_clean {g h : Heap} {L I : Addr} {oi : Obj} {news : List (Addr × Obj)} (N : News g L h news) (hI : (I, oi) ∈ news) (hc : noIter oi = false) : ∀ q ∈ news.filter (fun q => noIter q.2), q.1 ≠ I := by
  intro q hq e
  obtain ⟨h1, h2⟩ := List.mem_filter.mp hq
  have z := (N q h1).1
  rw [e, (N _ hI).1] at z
  cases z
  rw [hc] at h2
  cases h2
theorem led_ne2 {g h : Heap} {L I : Addr} {oi : Obj} {news : List (Addr × Obj)} (N : News g L h news) (hI : (I, oi) ∈ news) (hc : noIter oi = false) {q : Addr × Obj} (hq : q ∈ news) (h2 : noIter q.2 = true) : q.1 ≠ I := by
  intro e
  have z := (N q hq).1
  rw [e, (N _ hI).1] at z
  cases z
  rw [hc] at h2
  cases h2
theorem turn_end {g h : Heap} {L e it Dl R D t : Addr} {oe oi lo ro od to : Obj} {led rest : List (Addr × Obj)} (N : News g L h led) (mE : (e, oe) ∈ led) (mI : (it, oi) ∈ led) (mL : (Dl, lo) ∈ led) (mR : (R, ro) ∈ led) (mD : (D, od) ∈ led) (mT : (t, to) ∈ led) (sub : ∀ q ∈ rest, q ∈ led)
    (hoe : oe.cls = .type "enumerate") (hoi : oi.cls = .type "list_iterator") (hr : noIter ro = true) (hd : noIter od = true) (ht : noIter to = true) :
    News g L h ((e, oe) :: (it, oi) :: (Dl, lo) :: (R, ro) :: (D, od) :: (t, to) :: rest.filter fun q => noIter q.2) ∧ ∀ q ∈ (R, ro) :: (D, od) :: (t, to) :: rest.filter (fun q => noIter q.2), q.1 ≠ e ∧ q.1 ≠ it := by
  have ce : noIter oe = false := by simp [noIter, hoe]
  have ci : noIter oi = false := by simp [noIter, hoi]
  have inl : ∀ q ∈ (R, ro) :: (D, od) :: (t, to) :: rest.filter (fun q => noIter q.2), q ∈ led ∧ noIter q.2 = true := by
    intro q hq
    rcases List.mem_cons.mp hq with rfl | hq
    · exact ⟨mR, hr⟩
    · rcases List.mem_cons.mp hq with rfl | hq
      · exact ⟨mD, hd⟩
      · rcases List.mem_cons.mp hq with rfl | hq
        · exact ⟨mT, ht⟩
        · exact ⟨sub q (List.mem_filter.mp hq).1, (List.mem_filter.mp hq).2⟩
  refine ⟨fun q hq => ?_, fun q hq => ⟨led_ne2 N mE ce (inl q hq).1 (inl q hq).2, led_ne2 N mI ci (inl q hq).1 (inl q hq).2⟩⟩
  rcases List.mem_cons.mp hq with rfl | hq
  · exact N _ mE
  · rcases List.mem_cons.mp hq with rfl | hq
    · exact N _ mI
    · rcases List.mem_cons.mp hq with rfl | hq
      · exact N _ mL
      · exact N q (inl q hq).1
theorem rows_snoc {w : World} {rest rest3 : List (Addr × Obj)} {c3 c : Int} {rv : List Value} {t : Addr} {pv wv : Value} {t1 t2 : Tok} {n : Nat} (Rr : RowsOk w (fun a o => (a, o) ∈ rest) c3 rv) (sub : ∀ q ∈ rest, q ∈ rest3)
    (R5 : Rep w (fun a o => (a, o) ∈ rest3) pv (partP 3 c).tree) (R6 : Rep w (fun a o => (a, o) ∈ rest3) wv (wrapAll (formsOf c3) (partP 3 c).tree)) :
    RowsOk w (fun a o => (a, o) ∈ (t, tupOf (List.toArray [pv, .str (partP 3 c).told t1, .str (partP 3 c).head t2, wv]) n) :: rest3.filter fun q => noIter q.2) c3 (rv ++ [.ref t]) := by
  have up : ∀ a o, (a, o) ∈ rest3 ∧ noIter o = true → (a, o) ∈ (t, tupOf (List.toArray [pv, .str (partP 3 c).told t1, .str (partP 3 c).head t2, wv]) n) :: rest3.filter fun q => noIter q.2 := fun a o h => .tail _ (List.mem_filter.mpr ⟨h.1, h.2⟩)
  intro v hv
  rcases List.mem_append.mp hv with hv | hv
  · obtain ⟨c', r⟩ := Rr v hv
    exact ⟨c', (r.mono fun a o h => sub (a, o) h).clean.mono up⟩
  · rw [List.mem_singleton] at hv
    subst hv
    exact ⟨c, t, pv, t1, t2, wv, n, rfl, .head _, R5.clean.mono up, R6.clean.mono up⟩
theorem pin3 {m : Str → Option Value} {a b c : Str} {x y z : Option Value} (h1 : m a = x) (h2 : m b = y) (h3 : m c = z) : m = fun k => if k = a then x else if k = b then y else if k = c then z else m k := by
  funext k
  by_cases e1 : k = a
  · subst e1; rw [if_pos rfl, h1]
  · rw [if_neg e1]
    by_cases e2 : k = b
    · subst e2; rw [if_pos rfl, h2]
    · rw [if_neg e2]
      by_cases e3 : k = c
      · subst e3; rw [if_pos rfl, h3]
      · rw [if_neg e3]
end S72

namespace S72
theorem fill_S72Plain (P : Params) : hd.heap_39 P = hd.heap_39 P ∧ Challenge.rw_sz0072_01 = Challenge.rw_sz0072_01 := by
  w_top off
  k_fill
  exact ⟨rfl, rfl⟩
/-- how many surroundings add a level -/
def moreOf (cell : Int) : Nat := ((formsOf cell).filter fun f => decide (3 < f)).length
-- sizes
theorem leafT_size (k : Nat) : (leafT k).size = 1 := by
  unfold leafT
  repeat' split
  all_goals simp only [Tr.size]
theorem leafT_hgt (k : Nat) : (leafT k).hgt = 0 := by
  unfold leafT
  repeat' split
  all_goals simp only [Tr.hgt]
theorem seqT_size (b : Bool) (ts : List Tr) : (seqT b ts).size = 1 + sizeL ts := by
  unfold seqT
  split <;> simp only [Tr.size]
theorem seqT_hgt (b : Bool) (ts : List Tr) : (seqT b ts).hgt = hgtL ts := by
  unfold seqT
  split <;> simp only [Tr.hgt]
theorem part_size : ∀ (d : Nat) (c : Int), (partP d c).tree.size ≤ 2 + 2 * d
  | 0, c => by simp only [partP, Part.tree, leafT_size]; omega
  | d + 1, c => by
    have ih := part_size d (c.fdiv 24)
    unfold partP
    split
    · simp only [Part.tree, leafT_size]; omega
    · split
      · simp only [Part.tree, seqT_size, sizeL]; omega
      · split
        · simp only [Part.tree, seqT_size, sizeL]; omega
        · split
          · simp only [Part.tree, seqT_size, sizeL, Tr.size]; omega
          · split
            · simp only [Part.tree, Tr.size, sizeL]; omega
            · split
              · simp only [Part.tree, Tr.size, sizeL]; omega
              · simp only [Part.tree, Tr.size, sizeL]; omega
theorem wrapT_size (f : Int) (t : Tr) : (wrapT f t).size ≤ t.size + 2 := by
  unfold wrapT
  repeat' split
  all_goals first
    | (simp only [Tr.size, sizeL]; omega)
    | omega
theorem wrapAll_size : ∀ (fs : List Int) (t : Tr), (wrapAll fs t).size ≤ t.size + 2 * fs.length
  | [], t => Nat.le_refl _
  | f :: fs, t => by
    have ih := wrapAll_size fs (wrapT f t)
    have := wrapT_size f t
    simp only [wrapAll, List.foldl_cons, List.length_cons] at ih ⊢
    omega
theorem prog_size (c3 c : Int) : (Tr.node (Str.ofString "Program") [.list [wrapAll (formsOf c3) (partP 3 c).tree], .bool false]).size ≤ 1000000 := by
  have h1 := wrapAll_size (formsOf c3) (partP 3 c).tree
  have h2 := part_size 3 c
  have h3 : (formsOf c3).length = 3 := rfl
  simp only [Tr.size, sizeL]
  omega
theorem two_size (c c' : Int) : (partP 3 c).tree.size + (partP 3 c').tree.size ≤ 1000000 := by
  have h2 := part_size 3 c
  have h3 := part_size 3 c'
  omega
theorem wrap_size (c3 c c' : Int) : (wrapAll (formsOf c3) (partP 3 c).tree).size + (wrapAll (formsOf c3) (partP 3 c').tree).size ≤ 1000000 := by
  have h1 := wrapAll_size (formsOf c3) (partP 3 c).tree
  have h1' := wrapAll_size (formsOf c3) (partP 3 c').tree
  have h2 := part_size 3 c
  have h2' := part_size 3 c'
  have h3 : (formsOf c3).length = 3 := rfl
  omega
-- levels
theorem part_hgt : ∀ p : Part, p.tree.hgt = p.levels
  | .leaf k => leafT_hgt k
  | .nil b => by simp only [Part.tree, Part.levels, seqT_hgt, hgtL]
  | .one b p => by simp only [Part.tree, Part.levels, seqT_hgt, hgtL, part_hgt p]; omega
  | .two b p => by simp only [Part.tree, Part.levels, seqT_hgt, hgtL, Tr.hgt, part_hgt p]; omega
  | .node0 s => by simp only [Part.tree, Part.levels, Tr.hgt, hgtL]
  | .node1 s p => by simp only [Part.tree, Part.levels, Tr.hgt, hgtL, part_hgt p]; omega
  | .node2 s p => by simp only [Part.tree, Part.levels, Tr.hgt, hgtL, part_hgt p]; omega
theorem wrapT_hgt (f : Int) (t : Tr) (h0 : 0 ≤ f) (h6 : f < 6) : (wrapT f t).hgt = t.hgt + if 3 < f then 1 else 0 := by
  have : f = 0 ∨ f = 1 ∨ f = 2 ∨ f = 3 ∨ f = 4 ∨ f = 5 := by omega
  rcases this with rfl | rfl | rfl | rfl | rfl | rfl <;> simp [wrapT, Tr.hgt, hgtL] <;> omega
theorem wrapAll_hgt : ∀ (fs : List Int) (t : Tr), (∀ f ∈ fs, 0 ≤ f ∧ f < 6) → (wrapAll fs t).hgt = t.hgt + (fs.filter fun f => decide (3 < f)).length
  | [], t, _ => by simp [wrapAll]
  | f :: fs, t, h => by
    have ih := wrapAll_hgt fs (wrapT f t) fun x hx => h x (.tail _ hx)
    have e := wrapT_hgt f t (h f (.head _)).1 (h f (.head _)).2
    simp only [wrapAll, List.foldl_cons] at ih ⊢
    rw [ih, e]
    by_cases q : 3 < f
    · rw [if_pos q, List.filter_cons_of_pos (by simpa using q), List.length_cons]; omega
    · rw [if_neg q, List.filter_cons_of_neg (by simpa using q)]; omega
theorem forms_ok (c : Int) : ∀ f ∈ formsOf c, 0 ≤ f ∧ f < 6 := by
  intro f hf
  have q : ∀ x : Int, 0 ≤ x.fmod 6 ∧ x.fmod 6 < 6 := fun x => ⟨Int.fmod_nonneg_of_pos x (by decide), Int.fmod_lt_of_pos x (by decide)⟩
  simp only [formsOf, List.mem_cons, List.not_mem_nil, or_false] at hf
  rcases hf with rfl | rfl | rfl
  · exact q _
  · exact q _
  · exact q _
theorem prog_hgt (c3 c : Int) (_ : 0 ≤ c3) : (Tr.node (Str.ofString "Program") [.list [wrapAll (formsOf c3) (partP 3 c).tree], .bool false]).hgt = (partP 3 c).levels + moreOf c3 + 1 := by
  have e := wrapAll_hgt (formsOf c3) (partP 3 c).tree (forms_ok c3)
  simp only [Tr.hgt, hgtL, e, part_hgt, moreOf]
  omega
-- surroundings
theorem wrapT_inj {f : Int} {t t' : Tr} (h : wrapT f t = wrapT f t') : t = t' := by
  unfold wrapT at h
  by_cases h0 : f = 0
  · rw [if_pos h0, if_pos h0] at h; exact h
  rw [if_neg h0, if_neg h0] at h
  by_cases h1 : f = 1
  · rw [if_pos h1, if_pos h1] at h; injection h with h; injection h
  rw [if_neg h1, if_neg h1] at h
  by_cases h2 : f = 2
  · rw [if_pos h2, if_pos h2] at h; injection h with h; injection h with _ h; injection h
  rw [if_neg h2, if_neg h2] at h
  by_cases h3 : f = 3
  · rw [if_pos h3, if_pos h3] at h; injection h with h; injection h
  rw [if_neg h3, if_neg h3] at h
  by_cases h4 : f = 4
  · rw [if_pos h4, if_pos h4] at h; injection h with _ h; injection h
  rw [if_neg h4, if_neg h4] at h
  injection h with _ h; injection h with h _; injection h with h; injection h
theorem wrapAll_inj : ∀ {fs : List Int} {t t' : Tr}, wrapAll fs t = wrapAll fs t' → t = t'
  | [], _, _, h => h
  | _ :: _, _, _, h => wrapT_inj (wrapAll_inj h)
-- texts
def leafL (k : Nat) : List Nat := if k = 0 then [78, 111, 110, 101] else if k = 1 then [84, 114, 117, 101] else if k = 2 then [49] else if k = 3 then [39, 97, 39] else if k = 4 then [39, 49, 39] else [70, 97, 108, 115, 101]
def openL (b : Bool) : Nat := if b = true then 40 else 91
def closeL (b : Bool) : Nat := if b = true then 41 else 93
def kindL (b : Bool) : List Nat := if b = true then [83, 116, 114] else [78, 97, 109, 101]
def Part.code : Part → List Nat
  | .leaf k => leafL k
  | .nil b => [openL b, closeL b]
  | .one b p => openL b :: (p.code ++ [closeL b])
  | .two b p => openL b :: (p.code ++ [44, 49, closeL b])
  | .node0 s => kindL s ++ [123, 125]
  | .node1 s p => kindL s ++ 123 :: (p.code ++ [125])
  | .node2 s p => kindL s ++ 123 :: 39 :: 97 :: 39 :: 44 :: (p.code ++ [125])
abbrev lets (x : Str) : List Nat := x.cps.toList
theorem lets_app (x y : Str) : lets (x ++ y) = lets x ++ lets y := by simp [lets, Str.cps_append]
theorem lets_inj {x y : Str} (h : lets x = lets y) : x = y := Str.ext' (Array.toList_inj.mp h)
theorem leaf_lets (k : Nat) : lets (leafS k) = leafL k := by
  unfold leafS leafL
  repeat' split
  all_goals (first | rfl | decide)
theorem kind_lets (b : Bool) : lets (kindS b) = kindL b := by cases b <;> (first | rfl | decide)
theorem seq_lets (b : Bool) (x : Str) : lets (seqS b x) = openL b :: (lets x ++ [closeL b]) := by
  cases b
  · show lets (Str.ofString "[" ++ x ++ Str.ofString "]") = _
    rw [lets_app, lets_app]; rfl
  · show lets (Str.ofString "(" ++ x ++ Str.ofString ")") = _
    rw [lets_app, lets_app]; rfl
theorem told_lets : ∀ p : Part, lets p.told = p.code
  | .leaf k => leaf_lets k
  | .nil b => by simp only [Part.told, seq_lets, Part.code]; rfl
  | .one b p => by simp only [Part.told, seq_lets, Part.code, told_lets p]
  | .two b p => by
    simp only [Part.told, seq_lets, Part.code, lets_app, told_lets p]
    rw [List.append_assoc]; rfl
  | .node0 s => by
    simp only [Part.told, lets_app, Part.code, kind_lets]
    rw [List.append_assoc, List.append_assoc]; rfl
  | .node1 s p => by
    simp only [Part.told, lets_app, Part.code, kind_lets, told_lets p]
    rw [List.append_assoc, List.append_assoc]; rfl
  | .node2 s p => by
    simp only [Part.told, lets_app, Part.code, kind_lets, told_lets p]
    rw [List.append_assoc, List.append_assoc, List.append_assoc]; rfl
theorem leaf_cases : ∀ k : Nat, (leafL k = [78, 111, 110, 101] ∧ leafT k = .none ∧ leafS k = Str.ofString "None") ∨ (leafL k = [84, 114, 117, 101] ∧ leafT k = .bool true ∧ leafS k = Str.ofString "True") ∨ (leafL k = [49] ∧ leafT k = .int 1 ∧ leafS k = Str.ofString "1") ∨
    (leafL k = [39, 97, 39] ∧ leafT k = .str (Str.ofString "a") ∧ leafS k = Str.ofString "'a'") ∨ (leafL k = [39, 49, 39] ∧ leafT k = .str (Str.ofString "1") ∧ leafS k = Str.ofString "'1'") ∨ (leafL k = [70, 97, 108, 115, 101] ∧ leafT k = .bool false ∧ leafS k = Str.ofString "False")
  | 0 => .inl ⟨rfl, rfl, rfl⟩
  | 1 => .inr (.inl ⟨rfl, rfl, rfl⟩)
  | 2 => .inr (.inr (.inl ⟨rfl, rfl, rfl⟩))
  | 3 => .inr (.inr (.inr (.inl ⟨rfl, rfl, rfl⟩)))
  | 4 => .inr (.inr (.inr (.inr (.inl ⟨rfl, rfl, rfl⟩))))
  | _ + 5 => .inr (.inr (.inr (.inr (.inr ⟨rfl, rfl, rfl⟩))))
theorem head_code : ∀ p : Part, ∃ c l, p.code = c :: l ∧ c ≠ 93 ∧ c ≠ 41 ∧ c ≠ 125
  | .leaf k => by
    rcases leaf_cases k with h | h | h | h | h | h <;> exact ⟨_, _, h.1, by decide, by decide, by decide⟩
  | .nil b => by cases b <;> exact ⟨_, _, rfl, by decide, by decide, by decide⟩
  | .one b p => by cases b <;> exact ⟨_, _, rfl, by decide, by decide, by decide⟩
  | .two b p => by cases b <;> exact ⟨_, _, rfl, by decide, by decide, by decide⟩
  | .node0 s => by cases s <;> exact ⟨_, _, rfl, by decide, by decide, by decide⟩
  | .node1 s p => by cases s <;> exact ⟨_, _, rfl, by decide, by decide, by decide⟩
  | .node2 s p => by cases s <;> exact ⟨_, _, rfl, by decide, by decide, by decide⟩
theorem leaf_first (k : Nat) : ∃ c l, leafL k = c :: l ∧ (c ≠ 40 ∧ c ≠ 91 ∧ c ≠ 83) ∧ (c = 78 → ∃ l', l = 111 :: l') := by
  rcases leaf_cases k with ⟨e, _⟩ | ⟨e, _⟩ | ⟨e, _⟩ | ⟨e, _⟩ | ⟨e, _⟩ | ⟨e, _⟩ <;> first
    | exact ⟨_, _, e, by decide, fun _ => ⟨_, rfl⟩⟩
    | exact ⟨_, _, e, by decide, fun q => absurd q (by decide)⟩
theorem leaf_seq {k : Nat} {b : Bool} {r l : List Nat} (h : leafL k ++ r = openL b :: l) : False := by
  obtain ⟨c, m, e, ⟨n1, n2, _⟩, _⟩ := leaf_first k
  rw [e] at h
  injection h with h _
  cases b
  · exact n2 h
  · exact n1 h
theorem leaf_kind {k : Nat} {b : Bool} {r l : List Nat} (h : leafL k ++ r = kindL b ++ l) : False := by
  obtain ⟨c, m, e, ⟨_, _, n3⟩, q⟩ := leaf_first k
  rw [e] at h
  cases b
  · injection h with h h2
    obtain ⟨l', rfl⟩ := q h
    injection h2 with h2 _
    exact absurd h2 (by decide)
  · injection h with h _
    exact n3 h
theorem leaf_leaf {k k' : Nat} {r r' : List Nat} (h : leafL k ++ r = leafL k' ++ r') : leafT k = leafT k' ∧ r = r' := by
  rcases leaf_cases k with ⟨e, e', _⟩ | ⟨e, e', _⟩ | ⟨e, e', _⟩ | ⟨e, e', _⟩ | ⟨e, e', _⟩ | ⟨e, e', _⟩ <;> rcases leaf_cases k' with ⟨f, f', _⟩ | ⟨f, f', _⟩ | ⟨f, f', _⟩ | ⟨f, f', _⟩ | ⟨f, f', _⟩ | ⟨f, f', _⟩ <;> rw [e, f] at h <;> first
    | exact ⟨e'.trans f'.symm, List.append_cancel_left h⟩
    | exact absurd (List.cons.inj h).1 (by decide)
    | exact absurd (List.cons.inj (List.cons.inj h).2).1 (by decide)
theorem leaf_vs (k : Nat) (p' : Part) (r r' : List Nat) (h : leafL k ++ r = p'.code ++ r') : leafT k = p'.tree ∧ r = r' := by
  cases p' with
  | leaf k' => exact leaf_leaf h
  | nil b => exact (leaf_seq (b := b) h).elim
  | one b p => exact (leaf_seq (b := b) h).elim
  | two b p => exact (leaf_seq (b := b) h).elim
  | node0 b => exact (leaf_kind (h.trans (List.append_assoc (kindL b) _ _))).elim
  | node1 b p => exact (leaf_kind (h.trans (List.append_assoc (kindL b) _ _))).elim
  | node2 b p => exact (leaf_kind (h.trans (List.append_assoc (kindL b) _ _))).elim
theorem openL_inj {b b' : Bool} (h : openL b = openL b') : b = b' := by
  cases b <;> cases b' <;> first | rfl | (exact absurd h (by decide))
theorem kindL_inj {b b' : Bool} {r r' : List Nat} (h : kindL b ++ r = kindL b' ++ r') : b = b' ∧ r = r' := by
  cases b <;> cases b' <;> simp [kindL] at h ⊢ <;> exact h
theorem seq_kind {b b' : Bool} {r r' : List Nat} (h : openL b :: r = kindL b' ++ r') : False := by
  cases b <;> cases b' <;> simp [kindL, openL] at h
theorem close_head (b : Bool) (p : Part) {r r' : List Nat} (h : closeL b :: r = p.code ++ r') : False := by
  obtain ⟨c, l, e, h1, h2, _⟩ := head_code p
  rw [e] at h
  injection h with h _
  cases b
  · exact h1 h.symm
  · exact h2 h.symm
theorem curly_head (p : Part) {r r' : List Nat} (h : 125 :: r = p.code ++ r') : False := by
  obtain ⟨c, l, e, _, _, h3⟩ := head_code p
  rw [e] at h
  injection h with h _
  exact h3 h.symm
theorem close_not (b : Bool) {r r' : List Nat} (h : closeL b :: r = 44 :: r') : False := by
  cases b <;> simp [closeL] at h
theorem apps (l : List Nat) (x : Nat) (r : List Nat) : (l ++ [x]) ++ r = l ++ x :: r := by simp
theorem apps3 (l : List Nat) (x y z : Nat) (r : List Nat) : (l ++ [x, y, z]) ++ r = l ++ x :: y :: z :: r := by simp

theorem code_inj : ∀ (p p' : Part) (r r' : List Nat), p.code ++ r = p'.code ++ r' → p.tree = p'.tree ∧ r = r'
  | .leaf k, p', r, r', h => leaf_vs k p' r r' h
  | p, .leaf k, r, r', h => by
    obtain ⟨a, b⟩ := leaf_vs k p r' r h.symm
    exact ⟨a.symm, b.symm⟩
  | .nil b, .nil b', r, r', h => by
    simp only [Part.code, List.cons_append, List.append_assoc, List.nil_append] at h
    injection h with h1 h2
    injection h2 with _ h2
    cases openL_inj h1
    exact ⟨rfl, h2⟩
  | .nil b, .one b' q, r, r', h => by
    simp only [Part.code, List.cons_append, List.append_assoc, List.nil_append] at h
    injection h with _ h
    exact (close_head b q h).elim
  | .nil b, .two b' q, r, r', h => by
    simp only [Part.code, List.cons_append, List.append_assoc, List.nil_append] at h
    injection h with _ h
    exact (close_head b q h).elim
  | .one b p, .nil b', r, r', h => by
    simp only [Part.code, List.cons_append, List.append_assoc, List.nil_append] at h
    injection h with _ h
    exact (close_head b' p h.symm).elim
  | .one b p, .one b' q, r, r', h => by
    simp only [Part.code, List.cons_append, List.append_assoc, List.nil_append] at h
    injection h with h1 h
    cases openL_inj h1
    obtain ⟨e, h⟩ := code_inj p q _ _ h
    injection h with _ h
    exact ⟨by simp only [Part.tree, e], h⟩
  | .one b p, .two b' q, r, r', h => by
    simp only [Part.code, List.cons_append, List.append_assoc, List.nil_append] at h
    injection h with h1 h
    obtain ⟨_, h⟩ := code_inj p q _ _ h
    exact (close_not b h).elim
  | .two b p, .nil b', r, r', h => by
    simp only [Part.code, List.cons_append, List.append_assoc, List.nil_append] at h
    injection h with _ h
    exact (close_head b' p h.symm).elim
  | .two b p, .one b' q, r, r', h => by
    simp only [Part.code, List.cons_append, List.append_assoc, List.nil_append] at h
    injection h with h1 h
    obtain ⟨_, h⟩ := code_inj p q _ _ h
    exact (close_not b' h.symm).elim
  | .two b p, .two b' q, r, r', h => by
    simp only [Part.code, List.cons_append, List.append_assoc, List.nil_append] at h
    injection h with h1 h
    cases openL_inj h1
    obtain ⟨e, h⟩ := code_inj p q _ _ h
    injection h with _ h
    injection h with _ h
    injection h with _ h
    exact ⟨by simp only [Part.tree, e], h⟩
  | .nil b, .node0 s, r, r', h => by simp only [Part.code, List.cons_append, List.append_assoc, List.nil_append] at h; exact (seq_kind h).elim
  | .nil b, .node1 s q, r, r', h => by simp only [Part.code, List.cons_append, List.append_assoc, List.nil_append] at h; exact (seq_kind h).elim
  | .nil b, .node2 s q, r, r', h => by simp only [Part.code, List.cons_append, List.append_assoc, List.nil_append] at h; exact (seq_kind h).elim
  | .one b p, .node0 s, r, r', h => by simp only [Part.code, List.cons_append, List.append_assoc, List.nil_append] at h; exact (seq_kind h).elim
  | .one b p, .node1 s q, r, r', h => by simp only [Part.code, List.cons_append, List.append_assoc, List.nil_append] at h; exact (seq_kind h).elim
  | .one b p, .node2 s q, r, r', h => by simp only [Part.code, List.cons_append, List.append_assoc, List.nil_append] at h; exact (seq_kind h).elim
  | .two b p, .node0 s, r, r', h => by simp only [Part.code, List.cons_append, List.append_assoc, List.nil_append] at h; exact (seq_kind h).elim
  | .two b p, .node1 s q, r, r', h => by simp only [Part.code, List.cons_append, List.append_assoc, List.nil_append] at h; exact (seq_kind h).elim
  | .two b p, .node2 s q, r, r', h => by simp only [Part.code, List.cons_append, List.append_assoc, List.nil_append] at h; exact (seq_kind h).elim
  | .node0 s, .nil b, r, r', h => by simp only [Part.code, List.cons_append, List.append_assoc, List.nil_append] at h; exact (seq_kind h.symm).elim
  | .node1 s p, .nil b, r, r', h => by simp only [Part.code, List.cons_append, List.append_assoc, List.nil_append] at h; exact (seq_kind h.symm).elim
  | .node2 s p, .nil b, r, r', h => by simp only [Part.code, List.cons_append, List.append_assoc, List.nil_append] at h; exact (seq_kind h.symm).elim
  | .node0 s, .one b q, r, r', h => by simp only [Part.code, List.cons_append, List.append_assoc, List.nil_append] at h; exact (seq_kind h.symm).elim
  | .node1 s p, .one b q, r, r', h => by simp only [Part.code, List.cons_append, List.append_assoc, List.nil_append] at h; exact (seq_kind h.symm).elim
  | .node2 s p, .one b q, r, r', h => by simp only [Part.code, List.cons_append, List.append_assoc, List.nil_append] at h; exact (seq_kind h.symm).elim
  | .node0 s, .two b q, r, r', h => by simp only [Part.code, List.cons_append, List.append_assoc, List.nil_append] at h; exact (seq_kind h.symm).elim
  | .node1 s p, .two b q, r, r', h => by simp only [Part.code, List.cons_append, List.append_assoc, List.nil_append] at h; exact (seq_kind h.symm).elim
  | .node2 s p, .two b q, r, r', h => by simp only [Part.code, List.cons_append, List.append_assoc, List.nil_append] at h; exact (seq_kind h.symm).elim
  | .node0 s, .node0 s', r, r', h => by
    simp only [Part.code, List.cons_append, List.append_assoc, List.nil_append] at h
    have hk := kindL_inj h
    replace h := hk.2
    have e0 := hk.1
    clear hk
    subst e0
    injection h with _ h
    injection h with _ h
    exact ⟨rfl, h⟩
  | .node0 s, .node1 s' q, r, r', h => by
    simp only [Part.code, List.cons_append, List.append_assoc, List.nil_append] at h
    have hk := kindL_inj h
    replace h := hk.2
    have e0 := hk.1
    clear hk
    subst e0
    injection h with _ h
    exact (curly_head q h).elim
  | .node0 s, .node2 s' q, r, r', h => by
    simp only [Part.code, List.cons_append, List.append_assoc, List.nil_append] at h
    have hk := kindL_inj h
    replace h := hk.2
    have e0 := hk.1
    clear hk
    subst e0
    injection h with _ h
    injection h with h _
    exact absurd h (by decide)
  | .node1 s p, .node0 s', r, r', h => by
    simp only [Part.code, List.cons_append, List.append_assoc, List.nil_append] at h
    have hk := kindL_inj h
    replace h := hk.2
    have e0 := hk.1
    clear hk
    subst e0
    injection h with _ h
    exact (curly_head p h.symm).elim
  | .node1 s p, .node1 s' q, r, r', h => by
    simp only [Part.code, List.cons_append, List.append_assoc, List.nil_append] at h
    have hk := kindL_inj h
    replace h := hk.2
    have e0 := hk.1
    clear hk
    subst e0
    injection h with _ h
    obtain ⟨e, h⟩ := code_inj p q _ _ h
    injection h with _ h
    exact ⟨by simp only [Part.tree, e], h⟩
  | .node1 s p, .node2 s' q, r, r', h => by
    simp only [Part.code, List.cons_append, List.append_assoc, List.nil_append] at h
    have hk := kindL_inj h
    replace h := hk.2
    have e0 := hk.1
    clear hk
    subst e0
    injection h with _ h
    have h2 := (leaf_vs 3 p (44 :: (q.code ++ 125 :: r')) (125 :: r) h.symm).2
    injection h2 with h2 _
    exact absurd h2 (by decide)
  | .node2 s p, .node0 s', r, r', h => by
    simp only [Part.code, List.cons_append, List.append_assoc, List.nil_append] at h
    have hk := kindL_inj h
    replace h := hk.2
    have e0 := hk.1
    clear hk
    subst e0
    injection h with _ h
    injection h with h _
    exact absurd h (by decide)
  | .node2 s p, .node1 s' q, r, r', h => by
    simp only [Part.code, List.cons_append, List.append_assoc, List.nil_append] at h
    have hk := kindL_inj h
    replace h := hk.2
    have e0 := hk.1
    clear hk
    subst e0
    injection h with _ h
    have h2 := (leaf_vs 3 q (44 :: (p.code ++ 125 :: r)) (125 :: r') h).2
    injection h2 with h2 _
    exact absurd h2 (by decide)
  | .node2 s p, .node2 s' q, r, r', h => by
    simp only [Part.code, List.cons_append, List.append_assoc, List.nil_append] at h
    have hk := kindL_inj h
    replace h := hk.2
    have e0 := hk.1
    clear hk
    subst e0
    injection h with _ h
    injection h with _ h
    injection h with _ h
    injection h with _ h
    injection h with _ h
    obtain ⟨e, h⟩ := code_inj p q _ _ h
    injection h with _ h
    exact ⟨by simp only [Part.tree, e], h⟩
theorem told_tree {p p' : Part} (h : p.told = p'.told) : p.tree = p'.tree := by
  have e : lets p.told = lets p'.told := by rw [h]
  rw [told_lets, told_lets] at e
  exact (code_inj p p' [] [] (by rw [List.append_nil, List.append_nil]; exact e)).1
/-- the three kinds of part -/
theorem shape (p : Part) : (∃ k, p = .leaf k) ∨ (∃ b ts, p.tree = seqT b ts ∧ p.head = if b = true then Str.ofString "()" else Str.ofString "[]") ∨ (∃ s ts, p.tree = .node (kindS s) ts ∧ p.head = kindS s) := by
  cases p with
  | leaf k => exact .inl ⟨k, rfl⟩
  | nil b => exact .inr (.inl ⟨b, _, rfl, rfl⟩)
  | one b p => exact .inr (.inl ⟨b, _, rfl, rfl⟩)
  | two b p => exact .inr (.inl ⟨b, _, rfl, rfl⟩)
  | node0 s => exact .inr (.inr ⟨s, _, rfl, rfl⟩)
  | node1 s p => exact .inr (.inr ⟨s, _, rfl, rfl⟩)
  | node2 s p => exact .inr (.inr ⟨s, _, rfl, rfl⟩)
theorem two_strs : (Str.ofString "a" = Str.ofString "1") = False ∧ (Str.ofString "1" = Str.ofString "a") = False := ⟨eq_false (by decide), eq_false (by decide)⟩
theorem leaf_tree {k k' : Nat} (h : leafT k = leafT k') : leafS k = leafS k' := by
  rcases leaf_cases k with ⟨_, e, f⟩ | ⟨_, e, f⟩ | ⟨_, e, f⟩ | ⟨_, e, f⟩ | ⟨_, e, f⟩ | ⟨_, e, f⟩ <;> rcases leaf_cases k' with ⟨_, e', f'⟩ | ⟨_, e', f'⟩ | ⟨_, e', f'⟩ | ⟨_, e', f'⟩ | ⟨_, e', f'⟩ | ⟨_, e', f'⟩ <;> rw [e, e'] at h <;> rw [f, f'] <;> first | rfl | (simp [two_strs] at h)
theorem leaf_notSeq {k : Nat} {b : Bool} {ts : List Tr} (h : leafT k = seqT b ts) : False := by
  rcases leaf_cases k with ⟨_, e, f⟩ | ⟨_, e, f⟩ | ⟨_, e, f⟩ | ⟨_, e, f⟩ | ⟨_, e, f⟩ | ⟨_, e, f⟩ <;> rw [e] at h <;> cases b <;> simp [seqT] at h
theorem leaf_notNode {k : Nat} {x : Str} {ts : List Tr} (h : leafT k = .node x ts) : False := by
  rcases leaf_cases k with ⟨_, e, f⟩ | ⟨_, e, f⟩ | ⟨_, e, f⟩ | ⟨_, e, f⟩ | ⟨_, e, f⟩ | ⟨_, e, f⟩ <;> rw [e] at h <;> cases h
theorem seq_notNode {b : Bool} {us : List Tr} {x : Str} {ts : List Tr} (h : seqT b us = .node x ts) : False := by
  cases b <;> simp [seqT] at h
theorem seqT_inj {b b' : Bool} {ts ts' : List Tr} (h : seqT b ts = seqT b' ts') : b = b' ∧ ts = ts' := by
  cases b <;> cases b' <;> simp [seqT] at h ⊢ <;> exact h
theorem kindS_inj {b b' : Bool} (h : kindS b = kindS b') : b = b' := by
  cases b <;> cases b' <;> first | rfl | (exact absurd h (by decide))
theorem tree_told : ∀ (p p' : Part), p.tree = p'.tree → p.told = p'.told
  | .leaf k, .leaf k', h => leaf_tree h
  | .leaf k, .nil _, h => (leaf_notSeq h).elim
  | .leaf k, .one _ _, h => (leaf_notSeq h).elim
  | .leaf k, .two _ _, h => (leaf_notSeq h).elim
  | .leaf k, .node0 _, h => (leaf_notNode h).elim
  | .leaf k, .node1 _ _, h => (leaf_notNode h).elim
  | .leaf k, .node2 _ _, h => (leaf_notNode h).elim
  | .nil _, .leaf k, h => (leaf_notSeq h.symm).elim
  | .one _ _, .leaf k, h => (leaf_notSeq h.symm).elim
  | .two _ _, .leaf k, h => (leaf_notSeq h.symm).elim
  | .node0 _, .leaf k, h => (leaf_notNode h.symm).elim
  | .node1 _ _, .leaf k, h => (leaf_notNode h.symm).elim
  | .node2 _ _, .leaf k, h => (leaf_notNode h.symm).elim
  | .nil _, .node0 _, h => (seq_notNode h).elim
  | .nil _, .node1 _ _, h => (seq_notNode h).elim
  | .nil _, .node2 _ _, h => (seq_notNode h).elim
  | .one _ _, .node0 _, h => (seq_notNode h).elim
  | .one _ _, .node1 _ _, h => (seq_notNode h).elim
  | .one _ _, .node2 _ _, h => (seq_notNode h).elim
  | .two _ _, .node0 _, h => (seq_notNode h).elim
  | .two _ _, .node1 _ _, h => (seq_notNode h).elim
  | .two _ _, .node2 _ _, h => (seq_notNode h).elim
  | .node0 _, .nil _, h => (seq_notNode h.symm).elim
  | .node0 _, .one _ _, h => (seq_notNode h.symm).elim
  | .node0 _, .two _ _, h => (seq_notNode h.symm).elim
  | .node1 _ _, .nil _, h => (seq_notNode h.symm).elim
  | .node1 _ _, .one _ _, h => (seq_notNode h.symm).elim
  | .node1 _ _, .two _ _, h => (seq_notNode h.symm).elim
  | .node2 _ _, .nil _, h => (seq_notNode h.symm).elim
  | .node2 _ _, .one _ _, h => (seq_notNode h.symm).elim
  | .node2 _ _, .two _ _, h => (seq_notNode h.symm).elim
  | .nil b, .nil b', h => by rw [(seqT_inj h).1]
  | .nil b, .one b' q, h => nomatch (seqT_inj h).2
  | .nil b, .two b' q, h => nomatch (seqT_inj h).2
  | .one b p, .nil b', h => nomatch (seqT_inj h).2
  | .one b p, .one b' q, h => by
    obtain ⟨e, h⟩ := seqT_inj h
    injection h with h _
    simp only [Part.told, e, tree_told p q h]
  | .one b p, .two b' q, h => by
    obtain ⟨e, h⟩ := seqT_inj h
    injection h with _ h
    exact nomatch h
  | .two b p, .nil b', h => nomatch (seqT_inj h).2
  | .two b p, .one b' q, h => by
    obtain ⟨e, h⟩ := seqT_inj h
    injection h with _ h
    exact nomatch h
  | .two b p, .two b' q, h => by
    obtain ⟨e, h⟩ := seqT_inj h
    injection h with h _
    simp only [Part.told, e, tree_told p q h]
  | .node0 s, .node0 s', h => by
    injection h with h _
    rw [kindS_inj h]
  | .node0 s, .node1 s' q, h => by
    injection h with _ h
    exact nomatch h
  | .node0 s, .node2 s' q, h => by
    injection h with _ h
    exact nomatch h
  | .node1 s p, .node0 s', h => by
    injection h with _ h
    exact nomatch h
  | .node1 s p, .node1 s' q, h => by
    injection h with e h
    injection h with h _
    simp only [Part.told, kindS_inj e, tree_told p q h]
  | .node1 s p, .node2 s' q, h => by
    injection h with _ h
    injection h with _ h
    exact nomatch h
  | .node2 s p, .node0 s', h => by
    injection h with _ h
    exact nomatch h
  | .node2 s p, .node1 s' q, h => by
    injection h with _ h
    injection h with _ h
    exact nomatch h
  | .node2 s p, .node2 s' q, h => by
    injection h with e h
    injection h with _ h
    injection h with h _
    simp only [Part.told, kindS_inj e, tree_told p q h]
theorem told_iff (c c' : Int) : ((partP 3 c).told == (partP 3 c').told) = true ↔ (partP 3 c).tree = (partP 3 c').tree := by
  rw [beq_iff_eq]
  exact ⟨told_tree, tree_told _ _⟩
theorem wrap_iff (c3 c c' : Int) : ((partP 3 c).told == (partP 3 c').told) = true ↔ wrapAll (formsOf c3) (partP 3 c).tree = wrapAll (formsOf c3) (partP 3 c').tree := by
  rw [told_iff]
  exact ⟨fun h => by rw [h], wrapAll_inj⟩
theorem head_leaf (k k' : Nat) : sameKind (leafT k) (leafT k') = (leafS k == leafS k') := by
  rcases leaf_cases k with ⟨_, e, f⟩ | ⟨_, e, f⟩ | ⟨_, e, f⟩ | ⟨_, e, f⟩ | ⟨_, e, f⟩ | ⟨_, e, f⟩ <;> rcases leaf_cases k' with ⟨_, e', f'⟩ | ⟨_, e', f'⟩ | ⟨_, e', f'⟩ | ⟨_, e', f'⟩ | ⟨_, e', f'⟩ | ⟨_, e', f'⟩ <;> rw [e, e', f, f'] <;> first | rfl | decide
theorem head_seq (k : Nat) (b : Bool) (ts : List Tr) : sameKind (leafT k) (seqT b ts) = false ∧ sameKind (seqT b ts) (leafT k) = false ∧ (leafS k == if b = true then Str.ofString "()" else Str.ofString "[]") = false ∧ ((if b = true then Str.ofString "()" else Str.ofString "[]") == leafS k) = false := by
  rcases leaf_cases k with ⟨_, e, f⟩ | ⟨_, e, f⟩ | ⟨_, e, f⟩ | ⟨_, e, f⟩ | ⟨_, e, f⟩ | ⟨_, e, f⟩ <;> rw [e, f] <;> cases b <;> exact ⟨rfl, rfl, by decide, by decide⟩
theorem head_node (k : Nat) (s : Bool) (ts : List Tr) : sameKind (leafT k) (.node (kindS s) ts) = false ∧ sameKind (.node (kindS s) ts) (leafT k) = false ∧ (leafS k == kindS s) = false ∧ (kindS s == leafS k) = false := by
  rcases leaf_cases k with ⟨_, e, f⟩ | ⟨_, e, f⟩ | ⟨_, e, f⟩ | ⟨_, e, f⟩ | ⟨_, e, f⟩ | ⟨_, e, f⟩ <;> rw [e, f] <;> cases s <;> exact ⟨rfl, rfl, by decide, by decide⟩
theorem head_kind (c c' : Int) : sameKind (partP 3 c).tree (partP 3 c').tree = ((partP 3 c).head == (partP 3 c').head) := by
  rcases shape (partP 3 c) with ⟨k, e⟩ | ⟨b, ts, e, f⟩ | ⟨s, ts, e, f⟩ <;> rcases shape (partP 3 c') with ⟨k', e'⟩ | ⟨b', ts', e', f'⟩ | ⟨s', ts', e', f'⟩
  · rw [e, e']; exact head_leaf k k'
  · rw [e, e', f']; exact (head_seq k b' ts').1.trans (head_seq k b' ts').2.2.1.symm
  · rw [e, e', f']; exact (head_node k s' ts').1.trans (head_node k s' ts').2.2.1.symm
  · rw [e', e, f]; exact (head_seq k' b ts).2.1.trans (head_seq k' b ts).2.2.2.symm
  · rw [e, e', f, f']; cases b <;> cases b' <;> first | rfl | (show false = _; decide)
  · rw [e, e', f, f']; cases b <;> cases s' <;> (show false = _; decide)
  · rw [e', e, f]; exact (head_node k' s ts).2.1.trans (head_node k' s ts).2.2.2.symm
  · rw [e, e', f, f']; cases s <;> cases b' <;> (show false = _; decide)
  · rw [e, e', f, f']; rfl
end S72

namespace S72
theorem fill_S72LawB (P : Params) : hd.heap_39 P = hd.heap_39 P ∧ Challenge.rw_sz0072_01 = Challenge.rw_sz0072_01 := by
  w_top off
  k_fill
  exact ⟨rfl, rfl⟩
local macro_rules | `(tactic| k_steps) => `(tactic| repeat' (first
  | ((fail_if_success (with_reducible show wpAny _ _ (call (Value.ref 68) _) _ _ _)); (fail_if_success (with_reducible show wpAny _ _ (call (Value.ref 75) _) _ _ _)); (fail_if_success (with_reducible show wpAny _ _ (call (Value.ref 47) _) _ _ _)); (fail_if_success (with_reducible show wpAny _ _ (call (Value.ref 54) _) _ _ _)); (fail_if_success (with_reducible show wpAny _ _ (call (Value.ref 61) _) _ _ _)); (fail_if_success (with_reducible show wpAny _ _ (exec (Stmt.For _ _ _ _ _) _) _ _ _)); first | (k_unfold; (try dsimp only)) | (k_end; kc_close) | walk1 | (dsimp only; walk1) | (leave1; walk_say "STEP leave1"; (try dsimp only)))
  | fail "no step"))
local macro_rules | `(tactic| walk_at "call ref") => `(tactic| (k_here; (with_reducible show wpAny _ _ (call (Value.ref 31) [_, _, _]) _ _ _); k_dflt (refine' node_use ?B ?F ?N ?X ?T ?k ?d ?u ?_; (case B => k_asm); (case F => k_asm); (case N => k_asm); (case X => k_asm); (case T => k_asm); (case k => first | exact rfl | assumption); (case d => ktr_room); (case u => ktr_units)); intro x' dx' t1' t2' t3' t4' n' h' tk' F' N' l1; (try k_sweep)))
local macro_rules | `(tactic| walk_at "call builtin:list.append") => `(tactic| (k_here; (with_reducible show wpAny _ _ (call (Value.builtin _) [Value.ref _, _]) _ _ _); k_dflt (refine' s72_append ?F ?N ?U ?z ?_; (case F => k_asm); (case N => k_asm); (case U => k_upd); (case z => assumption)); intro h' F' N'; (try k_sweep)))

theorem more_le (cell : Int) : moreOf cell ≤ 3 := Nat.le_trans (List.length_filter_le _ _) (Nat.le_refl 3)
theorem carried_len : ∀ {ys : List Value} {ds : List PyData}, CarriedAll ys ds → ys.length = ds.length
  | [], [], _ => rfl
  | [], _ :: _, h => by cases h
  | _ :: _, [], h => by cases h
  | _ :: ys, _ :: ds, h => by
    cases h with
    | cons a b => simp only [List.length_cons, carried_len b]
theorem more_len {cell : Int} {ys : List Value} (h : CarriedAll ys (List.map (fun _ => PyData.int 1) (List.filter (fun a => decide (3 < a)) [cell.fmod 6, (cell.fdiv 6).fmod 6, (cell.fdiv 36).fmod 6]))) : ys.length = moreOf cell := by
  rw [carried_len h, List.length_map]
  rfl

theorem three_abs {g h : Heap} {L l : Addr} {a b c : Int} {t1 t2 t3 : Tok} {n : Nat} {news : List (Addr × Obj)} (N : News g L h ((l, listOf (List.toArray [Value.int a t1, .int b t2, .int c t3]) n) :: news)) :
    ∃ ws, IntsAre ws [a, b, c] ∧ News g L h ((l, listOf ws.toArray n) :: news) := ⟨_, .cons _ _ (.cons _ _ (.cons _ _ .nil)), N⟩

theorem law_inj {P : List Stmt → Scope → Str → Prop} {l : Option Obj} {name qual name' qual' : Str} {params params' : Arguments} {body body' : List Stmt} {scope scope' : Scope} {dV kV doc pm cdv ct oc dV' kV' doc' pm' cdv' ct' oc' : Value} {an od an' od' : Option Addr} {osl osl' : Array (Option Value)}
    (h1 : l = some ⟨oc, od, .func (fnOf name qual params body scope dV kV doc pm an cdv ct), osl⟩) (h2 : l = some ⟨oc', od', .func (fnOf name' qual' params' body' scope' dV' kV' doc' pm' an' cdv' ct'), osl'⟩) (k : P body' scope' qual') : P body scope qual := by
  rw [h1] at h2
  injection h2 with e
  injection e with e1 e2 e3 e4
  injection e3 with e3
  injection e3 with f1 f2 f3 f4 f5 f6 f7 f8 f9 f10 f11 f12 f13 f14 f15
  injection f4 with f4
  subst f2 f4 f5
  exact k

section
variable {w : World} {mean : ExcName → Option Value} {mg mb : Str → Option Value}
set_option maxHeartbeats 2000000 in
theorem law_rest {name qual : Str} {params : Arguments} {body : List Stmt} {scope : Scope} {dV kV doc pm cdv cdv2 ct oc : Value} {an od : Option Addr} {osl : Array (Option Value)}
    {dp un : Nat} {gd : Option (List Code)} {outer : List Env} {A₀ : Around} {base g : Heap} {L fa D : Addr} {s : Shared} {Q : Flow → Shared → Prop} {sv : Value} {c0 c1 c2 c3 : Int} {u0 u1 u2 u3 : Tok} {n : Nat}
    (ho : (hd.heap_39 w.params).lookup 80 = some ⟨oc, od, .func (fnOf name qual params body scope dV kV doc pm an cdv2 ct), osl⟩)
    (B : Below A₀ base outer g) (F : Fr g L s.heap (fun y => if y = Str.ofString "cells" then some (.ref D) else List.lookup y [(Str.ofString "script", sv)].reverse))
    (N : News g L s.heap [(D, listOf (List.toArray [Value.int c0 u0, .int c1 u1, .int c2 u2, .int c3 u3]) n)])
    (X : (hd.heap_39 w.params).In g) (T : Top hd.view_39 (looseW hd.view_39 []) mean mg mb g)
    (hd : dp + 300 ≤ recursionLimit) (hu : un + 400 < cLine) (p0 : 0 ≤ c0) (p1 : 0 ≤ c1) (p2 : 0 ≤ c2) (p3 : 0 ≤ c3)
    (hret : ∀ h' m' tk', Fr g L h' m' → Q (.ret (.bool true)) { s with heap := h', toks := tk' }) :
    wpAny (model Challenge.rw_sz0072_01.row.prog w) (ktrTop dp un gd qual scope L fa cdv [] outer) (execs (body.drop 1) (envOf qual scope L fa cdv)) Q (fun _ _ => False) s := by
  refine law_inj (P := fun body scope qual => wpAny (model Challenge.rw_sz0072_01.row.prog w) (ktrTop dp un gd qual scope L fa cdv [] outer) (execs (body.drop 1) (envOf qual scope L fa cdv)) Q (fun _ _ => False) s) ho (by k_is) ?_
  clear ho
  dsimp only [List.drop]
  k_steps
  have g3 : [c0, c1, c2, c3].getD (Int.toNat 3) 0 = c3 := rfl
  rename_i R _ l0 _ _ _ _ _ _ N' l1
  rw [g3] at N'
  obtain ⟨ws, hI, N'⟩ := three_abs N'
  k_steps
  rename_i D2 ys h2 tk2 F2 N2 gD hD pl hC
  have hlen : ys.toArray.size = moreOf c3 := by
    have e := more_len hC
    rw [List.size_toArray]
    exact e
  have hm3 := more_le c3
  refine len_list hD (by rw [hlen]; omega) ?_
  rw [hlen]
  k_steps
  refine wpAny_For ?_
  k_steps
  rename_i hq1 hq2 _ _ _ nm9 _ _ _ _ _ _ _ _ _ _ Dl h9 F9 N9 l9
  clear nm9
  refine enum_iter (env := envOf _ _ L fa cdv) (n := 0) (vs := [Value.int c0 u0, .int c1 u1, .int c2 u2, .int c0 u0]) (news := [(R, listOf (List.toArray []) 0), (D, listOf (List.toArray [Value.int c0 u0, .int c1 u1, .int c2 u2, .int c3 u3]) n)])
    (fun i m₁ news₁ => m₁ (Str.ofString "cells") = some (.ref D) ∧ m₁ (Str.ofString "more") = some (.int ((moreOf c3 : Nat) : Int) (tk2 + 1)) ∧ m₁ (Str.ofString "rows") = some (.ref R) ∧
      ∃ rv k rest, news₁ = (R, listOf (List.toArray rv) k) :: (D, listOf (List.toArray [Value.int c0 u0, .int c1 u1, .int c2 u2, .int c3 u3]) n) :: rest ∧ rv.length ≤ i ∧ RowsOk w (fun a o => (a, o) ∈ rest) c3 rv ∧ ∀ q ∈ rest, q.1 ≠ R) rfl rfl rfl rfl F9 ?_ ⟨rfl, rfl, rfl, [], 0, [], rfl, Nat.zero_le _, (fun v hv => nomatch hv), (fun q hq => nomatch hq)⟩ ?_ ?_
  · intro q hq
    rcases List.mem_cons.mp hq with rfl | hq
    · exact N9 _ (by k_mem)
    · rcases List.mem_cons.mp hq with rfl | hq
      · exact N9 _ (by k_mem)
      · rcases List.mem_cons.mp hq with rfl | hq
        · exact N9 _ (by k_mem)
        · exact nomatch hq
  · clear N9 F9
    have hRl : Dl ≠ R := Nat.ne_of_gt l9.2.2.2.2.2.1
    have hRD : D ≠ R := Nat.ne_of_lt l0
    rintro e it oe oi i v tk₃ m₁ news₁ h₃ tk₄ ne hoe hoi hv ⟨hm1, hm2, hm3, rv, k, rest, rfl, hlen, Rr, hR⟩ F N
    have hi : i < 4 := by
      match i, hv with
      | 0, _ => decide
      | 1, _ => decide
      | 2, _ => decide
      | 3, _ => decide
      | n + 4, e => simp at e
    obtain ⟨c, u, rfl, hc⟩ : ∃ c u, v = .int c u ∧ 0 ≤ c := by
      match i, hv with
      | 0, e => cases e; exact ⟨_, _, rfl, p0⟩
      | 1, e => cases e; exact ⟨_, _, rfl, p1⟩
      | 2, e => cases e; exact ⟨_, _, rfl, p2⟩
      | 3, e => cases e; exact ⟨_, _, rfl, p0⟩
      | n + 4, e => simp at e
    obtain ⟨r, hr⟩ : ∃ r : Str → Option Value, m₁ = fun y => if y = Str.ofString "cells" then some (.ref D) else if y = Str.ofString "more" then some (.int ((moreOf c3 : Nat) : Int) (tk2 + 1)) else if y = Str.ofString "rows" then some (.ref R) else r y := ⟨m₁, pin3 hm1 hm2 hm3⟩
    clear hm1 hm2 hm3
    subst hr
    have hz : rv.length ≤ sizeLine := by rw [sizeLine_eq]; omega
    k_steps
    change Fr g L h₃ _ at F
    change News g L h₃ _ at N
    refine part_tail [(e, oe), (it, oi), (Dl, _), (R, _), (D, _)] B F N X T rfl (by omega) (by omega) hc fun x pv t1 t2 t3 nn rest2 h4 tk5 F4 sub4 N4 R4 frs4 frx => ?_
    have xR := frx (R, _) (.tail _ (.tail _ (.tail _ (.head _))))
    have hR2 : ∀ q ∈ rest2, q.1 ≠ R := fun q hq => (frs4 q hq).elim (hR q) (fun z => z (R, _) (.tail _ (.tail _ (.tail _ (.head _)))))
    dsimp only [List.cons_append, List.nil_append] at N4 F4
    clear F N frs4 frx
    k_steps
    rename_i F N _
    refine around_tail (c := c3) [(x, _), (e, oe), (it, oi), (Dl, _), (R, _), (D, _)] B F N X T rfl (by omega) (by omega) p3 R4 fun wv rest3 h6 tk7 F6 sub6 N6 R6 frs6 => ?_
    have hR3 : ∀ q ∈ rest3, q.1 ≠ R := fun q hq => (frs6 q hq).elim (hR2 q) (fun z => z (R, _) (.tail _ (.tail _ (.tail _ (.tail _ (.head _))))))
    dsimp only [List.cons_append, List.nil_append] at N6
    have R5 := R4.mono fun a o h => sub6 (a, o) h
    clear F N frs6
    k_steps
    rename_i Nq hq F N _ _ _ _
    have tR := Nat.ne_of_gt (Heap.lt_size (Nq (R, listOf (List.toArray rv) k) (by k_mem)).1)
    refine s72_append F N (.tail tR (.tail xR (.tail (ne _ (.head _)).1.symm (.tail (ne _ (.head _)).2.symm (.tail hRl (.head fun p hp => ?_)))))) hz (fun h7 F7 N7 => ?_)
    · rcases List.mem_cons.mp hp with rfl | hp
      · exact hRD
      · exact hR3 p hp
    clear F N
    k_steps
    rename_i F N
    have RP := prog_rep N (by k_mem) (by k_mem) (by k_mem) (by k_mem) R6 (fun z h => by repeat' (first | exact h | refine List.Mem.tail _ ?_))
    refine high_tail false B F N X T rfl (by omega) (by omega) RP (prog_size c3 c) ?_ fun h8 tk8 F8 N8 => ?_
    · rw [prog_hgt c3 c p3]; constructor
      · intro h; exact nomatch h
      · intro h; exact absurd h (by omega)
    k_steps
    refine high_tail true B F8 N8 X T rfl (by omega) (by omega) RP (prog_size c3 c) ?_ fun h9 tk9 F9 N9 => ?_
    · rw [prog_hgt c3 c p3]; constructor
      · intro _; omega
      · intro _; rfl
    clear F8 N8
    k_steps
    obtain ⟨N', ne'⟩ := turn_end (Dl := Dl) (lo := listOf (List.toArray [Value.int c0 u0, .int c1 u1, .int c2 u2, .int c0 u0]) 0) (R := R) (D := D) (to := tupOf (List.toArray [pv, .str (partP 3 c).told t1, .str (partP 3 c).head t2, wv]) 0) (rest := rest3) N9 (by k_mem) (by k_mem) (by k_mem) (by k_mem) (by k_mem) (by k_mem) (fun z h => by repeat' (first | exact h | refine List.Mem.tail _ ?_)) hoe hoi (by simp [noIter]) (by simp [noIter]) (by simp [noIter])
    refine ⟨_, _, _, _, rfl, F9, N', ne', rfl, rfl, rfl, _, _, _, rfl, ?_, rows_snoc Rr (fun z h => sub6 z (sub4 z h)) R5 R6, ?_⟩
    · rw [List.length_append]; simp; omega
    · intro q hq
      rcases List.mem_cons.mp hq with rfl | hq
      · exact tR
      · exact hR3 q (List.mem_filter.mp hq).1
  · clear N9 F9
    rintro m₁ news₁ h₃ tk₃ ⟨hm1, hm2, hm3, rv, k, rest, rfl, hlen, Rr, hR⟩ F N
    obtain ⟨r, hr⟩ : ∃ r : Str → Option Value, m₁ = fun y => if y = Str.ofString "rows" then some (.ref R) else if y = Str.ofString "rows" then some (.ref R) else if y = Str.ofString "rows" then some (.ref R) else r y := ⟨m₁, pin3 hm3 hm3 hm3⟩
    clear hm1 hm2 hm3
    subst hr
    change Fr g L h₃ _ at F
    change News g L h₃ _ at N
    k_steps
    refine wpAny_For ?_
    k_steps
    refine for_iter (env := envOf _ _ L fa cdv) (vs := rv) (n := k) (news := rest)
      (fun i m₁ news₁ => m₁ (Str.ofString "rows") = some (.ref R) ∧ RowsOk w (fun a o => (a, o) ∈ news₁) c3 rv) rfl rfl rfl F (fun q hq => ?_) ⟨rfl, Rr⟩ ?_ ?_
    · rcases List.mem_cons.mp hq with rfl | hq
      · exact N _ (by k_mem)
      · exact N _ (.tail _ (.tail _ (.tail _ hq)))
    · clear F N Rr hR r
      rintro I oi i v1 m₁ news₁ h₄ tk₄ _ ne hoi hv ⟨hm, Rr⟩ F N
      obtain ⟨cA, a1, pA, t1, t2, wA, nA, rfl, hA, RA, WA⟩ := Rr v1 (List.mem_of_getElem? hv)
      obtain ⟨r, hr⟩ : ∃ r : Str → Option Value, m₁ = fun y => if y = Str.ofString "rows" then some (.ref R) else if y = Str.ofString "rows" then some (.ref R) else if y = Str.ofString "rows" then some (.ref R) else r y := ⟨m₁, pin3 hm hm hm⟩
      clear hm
      subst hr
      change Fr g L h₄ _ at F
      change News g L h₄ _ at N
      k_steps
      refine wpAny_For ?_
      k_steps
      refine for_iter (env := envOf _ _ L fa cdv) (vs := rv) (n := k) (news := (I, oi) :: news₁)
        (fun i m₂ news₂ => m₂ (Str.ofString "rows") = some (.ref R) ∧ m₂ (Str.ofString "one") = some (.ref a1) ∧ news₂ = (I, oi) :: news₁) rfl rfl rfl F (fun q hq => ?_) ⟨rfl, rfl, rfl⟩ ?_ ?_
      · rcases List.mem_cons.mp hq with rfl | hq
        · exact N _ (by k_mem)
        · rcases List.mem_cons.mp hq with rfl | hq
          · exact N _ (by k_mem)
          · exact N _ (.tail _ (.tail _ hq))
      · clear F N r
        rintro I2 oi2 j v2 m₂ news₂ h₅ tk₅ _ ne2 hoi2 hv2 ⟨hm1, hm2, rfl⟩ F N
        obtain ⟨cB, b1, pB, t3, t4, wB, nB, rfl, hB, RB, WB⟩ := Rr v2 (List.mem_of_getElem? hv2)
        obtain ⟨r, hr⟩ : ∃ r : Str → Option Value, m₂ = fun y => if y = Str.ofString "rows" then some (.ref R) else if y = Str.ofString "one" then some (.ref a1) else if y = Str.ofString "one" then some (.ref a1) else r y := ⟨m₂, pin3 hm1 hm2 hm2⟩
        clear hm1 hm2
        subst hr
        change Fr g L h₅ _ at F
        change News g L h₅ _ at N
        have N : News g L h₅ ((b1, tupOf (List.toArray [pB, .str (partP 3 cB).told t3, .str (partP 3 cB).head t4, wB]) nB) :: (a1, tupOf (List.toArray [pA, .str (partP 3 cA).told t1, .str (partP 3 cA).head t2, wA]) nA) :: (I2, oi2) :: (R, listOf (List.toArray rv) k) :: (I, oi) :: news₁) := fun q hq => by
          rcases List.mem_cons.mp hq with rfl | hq
          · exact N _ (.tail _ (.tail _ (.tail _ hB)))
          · rcases List.mem_cons.mp hq with rfl | hq
            · exact N _ (.tail _ (.tail _ (.tail _ hA)))
            · exact N _ hq
        have tl : ∀ a o, (a, o) ∈ news₁ → (a, o) ∈ ((b1, tupOf (List.toArray [pB, .str (partP 3 cB).told t3, .str (partP 3 cB).head t4, wB]) nB) :: (a1, tupOf (List.toArray [pA, .str (partP 3 cA).told t1, .str (partP 3 cA).head t2, wA]) nA) :: (I2, oi2) :: (R, listOf (List.toArray rv) k) :: (I, oi) :: news₁) := fun a o h => .tail _ (.tail _ (.tail _ (.tail _ (.tail _ h))))
        k_steps
        rename_i F N
        refine same_tail ((partP 3 cA).told == (partP 3 cB).told) B F N X T rfl (by omega) (by omega) (RA.mono tl) (RB.mono tl) (two_size cA cB) (told_iff cA cB) fun h6 tk6 F6 N6 => ?_
        clear F N
        generalize hbb : ((partP 3 cA).told == (partP 3 cB).told) = bb at F6
        k_steps
        · rename_i hx
          exact absurd hx (by cases bb <;> decide)
        refine same_tail bb B F6 N6 X T rfl (by omega) (by omega) (WA.mono tl) (WB.mono tl) (wrap_size c3 cA cB) (by rw [← hbb]; exact wrap_iff c3 cA cB) fun h7 tk7 F7 N7 => ?_
        clear F6 N6
        k_steps
        refine kind_tail B F7 N7 X T rfl (by omega) (by omega) (RA.mono tl) (RB.mono tl) fun h8 tk8 F8 N8 => ?_
        rw [head_kind cA cB]
        clear F7 N7
        generalize hb3 : ((partP 3 cA).head == (partP 3 cB).head) = b3
        k_steps
        · rename_i hx
          rw [hb3] at hx
          exact absurd hx (by cases b3 <;> decide)
        exact ⟨_, _, _, (I, oi) :: news₁, rfl, F8, fun q hq => N8 q (.tail _ (.tail _ hq)), ne2, rfl, rfl, rfl⟩
      · rintro m₂ news₂ h₅ tk₅ ⟨hm1, hm2, rfl⟩ F' N'
        refine wpAny_execs_nil ?_
        refine ⟨_, _, _, news₁, rfl, F', fun q hq => ?_, ne, hm1, Rr⟩
        rcases List.mem_cons.mp hq with rfl | hq
        · exact N' _ (.tail _ (.head _))
        · rcases List.mem_cons.mp hq with rfl | hq
          · exact N' _ (.head _)
          · exact N' _ (.tail _ (.tail _ hq))
    · rintro m₂ news₂ h₅ tk₅ ⟨hm1, _⟩ F' N'
      k_steps
      exact hret _ _ _ F'
end

end S72

namespace S72
theorem fill_S72Law (P : Params) : hd.heap_39 P = hd.heap_39 P ∧ Challenge.rw_sz0072_01 = Challenge.rw_sz0072_01 := by
  w_top off
  k_fill
  exact ⟨rfl, rfl⟩
local macro_rules | `(tactic| k_steps) => `(tactic| repeat' (first
  | ((fail_if_success (with_reducible show wpAny _ _ (execs (Stmt.Assign [Expr.Tuple _ _ _] _ _ :: _) _) _ _ _)); first | (k_unfold; (try dsimp only)) | (k_end; kc_close) | walk1 | (dsimp only; walk1) | (leave1; walk_say "STEP leave1"; (try dsimp only)))
  | fail "no step"))
local macro_rules | `(tactic| kmk_nums) => `(tactic| first | exact kmk_upto (by l_ints) (by decide) | exact kmk_from (by l_ints) (Int.natCast_nonneg _))
local macro_rules | `(tactic| walk_at "subscriptTail List") => `(tactic| (k_here; k_dflt (refine kba_turn (value' := PySem.Expr.Name (PySem.Str.ofString "_") ⟨0, 0, 0, 0⟩) (fun _ => rfl) ?_)))

theorem four_cells : ∀ xs : List Int, ∃ c0 c1 c2 c3, List.map (fun k' => if k' < 0 then -k' else k') (List.take 4 xs) ++ List.drop (((List.take 4 xs).length : Nat) : Int).toNat [7, 19, 11, 27] = [c0, c1, c2, c3] ∧ 0 ≤ c0 ∧ 0 ≤ c1 ∧ 0 ≤ c2 ∧ 0 ≤ c3 := by
  have ab : ∀ k : Int, 0 ≤ (if k < 0 then -k else k) := by intro k; split <;> omega
  intro xs
  match xs with
  | [] => exact ⟨7, 19, 11, 27, rfl, by decide, by decide, by decide, by decide⟩
  | [a] => exact ⟨_, 19, 11, 27, rfl, ab a, by decide, by decide, by decide⟩
  | [a, b] => exact ⟨_, _, 11, 27, rfl, ab a, ab b, by decide, by decide⟩
  | [a, b, c] => exact ⟨_, _, _, 27, rfl, ab a, ab b, ab c, by decide⟩
  | a :: b :: c :: d :: r => exact ⟨_, _, _, _, rfl, ab a, ab b, ab c, ab d⟩
theorem ints_cons {ws : List Value} {c : Int} {cs : List Int} (h : IntsAre ws (c :: cs)) : ∃ u r, ws = .int c u :: r ∧ IntsAre r cs := by
  cases h with
  | cons _ u h => exact ⟨u, _, rfl, h⟩
theorem ints_nil {ws : List Value} (h : IntsAre ws []) : ws = [] := by
  cases h
  rfl
theorem four_ints {ws : List Value} {c0 c1 c2 c3 : Int} (h : IntsAre ws [c0, c1, c2, c3]) : ∃ u0 u1 u2 u3, ws = [Value.int c0 u0, .int c1 u1, .int c2 u2, .int c3 u3] := by
  obtain ⟨u0, r0, rfl, h0⟩ := ints_cons h
  obtain ⟨u1, r1, rfl, h1⟩ := ints_cons h0
  obtain ⟨u2, r2, rfl, h2⟩ := ints_cons h1
  obtain ⟨u3, r3, rfl, h3⟩ := ints_cons h2
  cases ints_nil h3
  exact ⟨_, _, _, _, rfl⟩
section
variable {w : World} {mean : ExcName → Option Value} {mg mb : Str → Option Value}
theorem law_tail {name qual : Str} {params : Arguments} {body rest : List Stmt} {scope : Scope} {dV kV doc pm cdv cdv2 ct oc : Value} {an od : Option Addr} {osl : Array (Option Value)}
    {dp un : Nat} {gd : Option (List Code)} {A A₀ : Around} {outer : List Env} {base g : Heap} {L fa D : Addr} {s : Shared} {Q : Flow → Shared → Prop} {sv : Value} {c0 c1 c2 c3 : Int} {u0 u1 u2 u3 : Tok} {n : Nat} {news : List (Addr × Obj)}
    (ho : (hd.heap_39 w.params).lookup 80 = some ⟨oc, od, .func (fnOf name qual params body scope dV kV doc pm an cdv2 ct), osl⟩)
    (hb : rest = body.drop 1) (hA : A = ktrTop dp un gd qual scope L fa cdv [] outer)
    (B : Below A₀ base outer g) (F : Fr g L s.heap (fun y => if y = Str.ofString "cells" then some (.ref D) else List.lookup y [(Str.ofString "script", sv)].reverse))
    (N : News g L s.heap ((D, listOf (List.toArray [Value.int c0 u0, .int c1 u1, .int c2 u2, .int c3 u3]) n) :: news))
    (X : (hd.heap_39 w.params).In g) (T : Top hd.view_39 (looseW hd.view_39 []) mean mg mb g)
    (hd : dp + 300 ≤ recursionLimit) (hu : un + 400 < cLine) (p0 : 0 ≤ c0) (p1 : 0 ≤ c1) (p2 : 0 ≤ c2) (p3 : 0 ≤ c3)
    (hret : ∀ h' m' tk', Fr g L h' m' → Q (.ret (.bool true)) { s with heap := h', toks := tk' }) :
    wpAny (model Challenge.rw_sz0072_01.row.prog w) A (execs rest (envOf qual scope L fa cdv)) Q (fun _ _ => False) s := by
  subst hb hA
  refine law_rest (n := n) (u0 := u0) (u1 := u1) (u2 := u2) (u3 := u3) ho B F (fun q hq => ?_) X T hd hu p0 p1 p2 p3 hret
  rcases List.mem_cons.mp hq with rfl | hq
  · exact N _ (.head _)
  · exact nomatch hq
end
set_option maxHeartbeats 8000000 in
theorem law_holds : PySem.Challenge.rw_sz0072_01.Holds := by
  refine hd ?_
  w_strict (k_go0; (all_goals try k_fold))
  k_steps
  rename IntsAre _ (List.map _ _ ++ _) => hI
  rename Fr _ _ _ _ => F'
  rename News _ _ _ _ => N'
  rename Top _ _ _ _ _ _ => T'
  rename Frag.In _ _ => KX
  obtain ⟨c0, c1, c2, c3, e, p0, p1, p2, p3⟩ := four_cells _
  rw [e] at hI
  obtain ⟨u0, u1, u2, u3, rfl⟩ := four_ints hI
  refine wpAny_noRaise ?_
  refine' law_tail ?ho ?hb ?hA ?B ?F ?N ?X ?T ?hd ?hu p0 p1 p2 p3 fun h'' m' tk' F'' => ?_
  case ho => k_is
  case hb => exact rfl
  case hA => exact rfl
  case F => exact F'
  case N => exact N'
  case X => exact KX
  case T => exact T'
  case B => exact below_caller _
  case hd => decide
  case hu => decide
  k_steps

end S72

set_option maxHeartbeats 8000000 in
theorem PySem.Challenge.cw_sz0072_01_holds : PySem.Challenge.rw_sz0072_01.Holds := by
  exact S72.law_holds
