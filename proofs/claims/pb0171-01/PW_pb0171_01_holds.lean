import PyProof.Rows.All
import Wide.All
import OpenK.AllK
import Wide.FinOn
import Lean
import PySem.Challenge.RW_pb0171_01
open PySem PySem.W PyProof.Rows
set_option Elab.async false
set_option maxRecDepth 100000
set_option maxHeartbeats 8000000
set_option compiler.extract_closed false
namespace Mine
noncomputable def later {α : Type} (x : α) : α := x
noncomputable def topRunT (st : SharedT → Thread → Option (SharedT × Thread)) (ok : Thread → Bool) (n : Nat) : SharedT → Thread → Option SharedT :=
  @Nat.rec (fun _ => SharedT → Thread → Option SharedT) (fun _ _ => none)
    (fun _ ih s t => @Bool.rec (fun _ => Option SharedT)
      (@Bool.rec (fun _ => Option SharedT) none
        (@Option.rec (SharedT × Thread) (fun _ => Option SharedT) none (fun r => @Prod.rec SharedT Thread (fun _ => Option SharedT) (fun s' t' => later (ih s' t')) r) (st s t)) (ok t))
      (some s) (through t)) n
theorem topRunT_of {tb : String → Option Builtin} {p : Program} {w : World} {n₀ : Nat} {ann : Option Value} : ∀ {n : Nat} {s s' : SharedT} {t : Thread},
    topRunT (stepT (denote tb) p w) (stepOk n₀ ann) n s t = some s' → topRun tb p w n₀ ann n s.abs t = some s'.abs
  | 0, _, _, _, h => by cases h
  | n + 1, s, s', t, h => by
    change @Bool.rec (fun _ => Option SharedT)
      (@Bool.rec (fun _ => Option SharedT) none
        (@Option.rec (SharedT × Thread) (fun _ => Option SharedT) none (fun r => @Prod.rec SharedT Thread (fun _ => Option SharedT) (fun s' t' => later (topRunT (stepT (denote tb) p w) (stepOk n₀ ann) n s' t')) r) (stepT (denote tb) p w s t)) (stepOk n₀ ann t))
      (some s) (through t) = some s' at h
    unfold topRun
    cases he : through t with
    | true => rw [he] at h; cases h; rfl
    | false =>
      rw [he] at h
      cases hk : stepOk n₀ ann t with
      | false => rw [hk] at h; cases h
      | true =>
        rw [hk] at h
        cases hs : stepT (denote tb) p w s t with
        | none => rw [hs] at h; cases h
        | some r => obtain ⟨s₂, t₂⟩ := r; rw [hs] at h; dsimp only; rw [stepT_spec hs]; exact topRunT_of h
noncomputable def forceT {β : Type} (t : BT) : (BT → β) → β :=
  @BT.rec (fun _ => (BT → β) → β) (fun k => k .nil) (fun v _ _ il ir k => later (il fun l => later (ir fun r => later (k (.node v l r))))) t
theorem forceT_eq {β : Type} : ∀ (t : BT) (k : BT → β), forceT t k = k t
  | .nil, _ => rfl
  | .node v l r, k => by
    change later (forceT l (fun l' => later (forceT r fun r' => later (k (.node v l' r'))))) = _
    unfold later
    rw [forceT_eq l, forceT_eq r]
noncomputable def forceL {γ β : Type} (t : List γ) : (List γ → β) → β :=
  @List.rec γ (fun _ => (List γ → β) → β) (fun k => k []) (fun v _ il k => later (il fun l => later (k (v :: l)))) t
theorem forceL_eq {γ β : Type} : ∀ (t : List γ) (k : List γ → β), forceL t k = k t
  | [], _ => rfl
  | v :: l, k => by
    change later (forceL l (fun l' => later (k (v :: l')))) = _
    unfold later
    rw [forceL_eq l]
noncomputable def build (l : List Obj) : Nat → BT → Option BT :=
  @List.rec Obj (fun _ => Nat → BT → Option BT) (fun _ t => some t) (fun o _ ih n t => @Bool.rec (fun _ => Option BT) none (later (ih (n + 1) (t.ins n o))) ((t.ins n o).get n).isSome) l
theorem build_abs {life : Life} : ∀ {l : List Obj} {n : Nat} {t t' : BT}, build l n t = some t' → absHeap t' (n + l.length) life = ⟨(absHeap t n life).objs ++ l.toArray, life⟩
  | [], n, t, t', h => by
    change some t = some t' at h
    cases h
    simp [absHeap]
  | o :: l, n, t, t', h => by
    change @Bool.rec (fun _ => Option BT) none (later (build l (n + 1) (t.ins n o))) ((t.ins n o).get n).isSome = some t' at h
    cases hs : ((t.ins n o).get n).isSome with
    | false => rw [hs] at h; cases h
    | true =>
      rw [hs] at h
      have := build_abs (life := life) h
      rw [List.length_cons, show n + (l.length + 1) = n + 1 + l.length by omega, this, absHeap_ins hs]
      show Heap.mk (((absHeap t n life).objs.push o) ++ l.toArray) life = _
      simp
theorem build_boot {H : Heap} {t' : BT} (h : build H.objs.toList 0 .nil = some t') : absHeap t' H.objs.size H.life = H := by
  have := build_abs (life := H.life) h
  rw [Nat.zero_add] at this
  rw [show H.objs.size = H.objs.toList.length from rfl, this]
  obtain ⟨⟨l⟩, life⟩ := H
  simp [absHeap, BT.list]
theorem left_of_tree {p q : Program} {loose : List Str} {Xt : Shared → Bool} {α : Type} {Yf : Shared → α} {Ya : World → α} {N : Nat} {g0 : Bool}
    (e : opening p = plainProg p.main.scope.names) (hN : Nat.ble 600 N = true) (f : ∀ s, fenceModules? p s = some s)
    (ns : ∀ w : World, (boot_heap w.params).isNs mainGlobals = true)
    (h : ∀ (w : World) (os : OsState), ((build (boot_heap w.params).objs.toList 0 .nil).bind fun T₀ => forceT T₀ fun T₀ =>
      (topRunT (stepT (denote treeTable) p w) (stepOk (boot_heap w.params).objs.size ((boot_heap w.params).nsMap mainGlobals "__annotations__")) N ⟨T₀, (boot_heap w.params).objs.size, (boot_heap w.params).life, Array.mk [], boot_drawn, boot_toks, os⟩ (topStub p)).bind fun s =>
        forceT s.tree fun T => forceL (T.list s.n) fun l =>
          let s₁ : Shared := ⟨⟨⟨l⟩, s.life⟩, s.gens, s.drawn, s.toks, s.os⟩
          match staticsOk (importedModules p.main.body) (boot_heap w.params) s₁.heap && namesBound p s₁.heap && gensDone s₁ && laidKept (boot_heap w.params) s₁.heap with
          | true => some (openSeen q loose (importedModules p.main.body) Xt g0 s₁, Yf s₁)
          | false => none) = some (openGood q loose, Ya w)) : LeftO p q loose Xt Yf Ya N g0 := fun w => by
  obtain ⟨⟨a, b, c, d, os⟩, hs, hv⟩ := Option.map_eq_some_iff.mp (boot_open e hN f w)
  obtain ⟨rfl, rfl, rfl, rfl⟩ : a = boot_heap w.params ∧ b = Array.mk [] ∧ c = boot_drawn ∧ d = boot_toks := by simpa using hv
  unfold openEnds
  rw [hs]
  have h := h w os
  obtain ⟨T₀, hb, h⟩ := Option.bind_eq_some_iff.mp h
  rw [forceT_eq] at h
  obtain ⟨s, hr, h⟩ := Option.bind_eq_some_iff.mp h
  rw [forceT_eq, forceL_eq] at h
  have hr := topRunT_of hr
  change topRun _ _ _ _ _ _ ⟨absHeap T₀ _ _, _, _, _, _⟩ _ = some ⟨⟨⟨_⟩, _⟩, _, _, _, _⟩ at hr
  rw [build_boot hb] at hr
  show (topFrom treeTable p w N ⟨boot_heap w.params, Array.mk [], boot_drawn, boot_toks, os⟩).map _ = _
  unfold topFrom
  dsimp only
  rw [ns w]
  dsimp only at h ⊢
  change Option.map _ ((topRun _ _ _ _ _ _ _ _).bind _) = _
  rw [hr]
  dsimp only [Option.bind]
  split at h
  next hc => rw [hc]; exact h
  next => cases h
theorem up {T : Prop} {p : Prop → Prop} {h : p T} (x : T) : (⟨T, h⟩ : Subtype p).val := x
theorem keep {A B C : Prop} (_ : A) (_ : B) (c : C) : C := c
theorem well : PySem.Challenge.rw_pb0171_01.wellSaid = true := by
  rw [PySem.W.Fast.te9446332074065402090]
  kernel_rfl
noncomputable def hd : { T : Prop // T → PySem.Challenge.rw_pb0171_01.Holds } := by
  refine' ⟨_, fun walk => ?main⟩
  case main =>
    refine' keep ?hc ?hl ?go
    case go =>
      w_on
      refine holds_law well fun said => ?_
      k_head
      case hw => w_witness2
    case hc => exact walk
    case hl =>
      refine left_of_tree ?e ?n ?f ?ns ?h
      case e => kernel_rfl
      case n => kernel_rfl
      case f => intro s; kernel_rfl
      case ns => intro w; kernel_rfl
      case h =>
        intro w os
        rw [PySem.W.Fast.te14364793385576792824, PySem.W.Fast.te4187177175401517315, PySem.W.Fast.te11892475500146522536, PySem.W.Fast.te10156331382660048174, PySem.W.Fast.te6613529449190102663]
        kernel_rfl
open PySem.Calls PyProof.V
local macro_rules | `(tactic| walk_at $s:str) => `(tactic| k_extra $s)
/-! M0 -/
noncomputable abbrev Ledger := List (Addr × Obj)
structure Cx (w : World) (A : Around) (h₀ : Heap) (L : Addr) (m : Str → Option Value) (s : Shared) (news : Ledger) (D U : Nat) : Prop where
  body : ∃ (mean : ExcName → Option Value) (mg mb : Str → Option Value) (base : Heap) (A₀ : Around) (outer : List Env) (cn : Str) (cs : Scope) (a : Addr) (ccd : Value) (cl : List (Str × Addr)),
    Below A₀ base outer h₀ ∧ Fr h₀ L s.heap m ∧ (hd.heap_1 w.params).In h₀ ∧ News h₀ L s.heap news ∧ Top hd.view_1 (looseW hd.view_1 []) mean mg mb h₀ ∧ cs.kind = .function ∧
    A.handled = none ∧ A.frames = some (envX cn cs L a ccd cl :: outer) ∧ A.depth + D < recursionLimit ∧ A.units + U < cLine
theorem Cx.of {w : World} {A : Around} {h₀ : Heap} {L : Addr} {m : Str → Option Value} {s : Shared} {news : Ledger} {D U : Nat} {mean : ExcName → Option Value} {mg mb : Str → Option Value} {base : Heap} {A₀ : Around} {outer : List Env} {cn : Str} {cs : Scope} {a : Addr} {ccd : Value} {cl : List (Str × Addr)}
    (B : Below A₀ base outer h₀) (F : Fr h₀ L s.heap m) (X : (hd.heap_1 w.params).In h₀) (N : News h₀ L s.heap news) (T : Top hd.view_1 (looseW hd.view_1 []) mean mg mb h₀) (hk : cs.kind = .function)
    (hh : A.handled = none) (hf : A.frames = some (envX cn cs L a ccd cl :: outer)) (hd : A.depth + D < recursionLimit) (hu : A.units + U < cLine) : Cx w A h₀ L m s news D U :=
  ⟨_, _, _, _, _, _, _, _, _, _, _, B, F, X, N, T, hk, hh, hf, hd, hu⟩
theorem Cx.elim {w : World} {A : Around} {h₀ : Heap} {L : Addr} {m : Str → Option Value} {s : Shared} {news : Ledger} {D U : Nat} {motive : Prop} (c : Cx w A h₀ L m s news D U)
    (k : ∀ (mean : ExcName → Option Value) (mg mb : Str → Option Value) (base : Heap) (A₀ : Around) (outer : List Env) (cn : Str) (cs : Scope) (a : Addr) (ccd : Value) (cl : List (Str × Addr)),
      Below A₀ base outer h₀ → Fr h₀ L s.heap m → (hd.heap_1 w.params).In h₀ → News h₀ L s.heap news → Top hd.view_1 (looseW hd.view_1 []) mean mg mb h₀ → cs.kind = .function →
      A.handled = none → A.frames = some (envX cn cs L a ccd cl :: outer) → A.depth + D < recursionLimit → A.units + U < cLine → motive) : motive := by
  obtain ⟨mean, mg, mb, base, A₀, outer, cn, cs, a, ccd, cl, B, F, X, N, T, hk, hh, hf, hd, hu⟩ := c
  exact k mean mg mb base A₀ outer cn cs a ccd cl B F X N T hk hh hf hd hu
theorem Cx.sub {w : World} {A : Around} {h₀ : Heap} {L : Addr} {m : Str → Option Value} {s : Shared} {news news' : Ledger} {D U : Nat} (c : Cx w A h₀ L m s news D U) (h : ∀ p ∈ news', p ∈ news) : Cx w A h₀ L m s news' D U := by
  obtain ⟨mean, mg, mb, base, A₀, outer, cn, cs, a, ccd, cl, B, F, X, N, T, hk, hh, hf, hd, hu⟩ := c
  exact .of B F X (fun p hp => N p (h p hp)) T hk hh hf hd hu
theorem Cx.news {w : World} {A : Around} {h₀ : Heap} {L : Addr} {m : Str → Option Value} {s : Shared} {news : Ledger} {D U : Nat} (c : Cx w A h₀ L m s news D U) : News h₀ L s.heap news := by
  obtain ⟨mean, mg, mb, base, A₀, outer, cn, cs, a, ccd, cl, B, F, X, N, T, hk, hh, hf, hd, hu⟩ := c
  exact N
theorem upd_mem {d : Addr} {o o' : Obj} {l l' : Ledger} (U : Upd d o o' l l') : ∀ p ∈ l', p = (d, o') ∨ (p ∈ l ∧ p.1 ≠ d) := by
  obtain ⟨pre, post, rfl, rfl, h1, h2⟩ := U.split
  intro p hp
  rcases List.mem_append.mp hp with h | h
  · exact .inr ⟨List.mem_append_left _ h, h1 p h⟩
  · rcases List.mem_cons.mp h with h | h
    · exact .inl h
    · exact .inr ⟨List.mem_append_right _ (.tail _ h), h2 p h⟩
theorem upd_old {d : Addr} {o o' : Obj} {l l' : Ledger} (U : Upd d o o' l l') : (d, o) ∈ l := by
  obtain ⟨pre, post, rfl, rfl, h1, h2⟩ := U.split
  simp
theorem allLt_ne {d : Addr} : ∀ {l : Ledger}, AllLt d l → ∀ p ∈ l, p.1 ≠ d
  | [], _, _, h => nomatch h
  | q :: r, ⟨h1, h2⟩, p, hp => by
    rcases List.mem_cons.mp hp with rfl | hp
    · exact Nat.ne_of_lt h1
    · exact allLt_ne h2 p hp
theorem allLt_mem {d : Addr} : ∀ {l : Ledger}, AllLt d l → ∀ p ∈ l, p.1 < d
  | [], _, _, h => nomatch h
  | q :: r, ⟨h1, h2⟩, p, hp => by
    rcases List.mem_cons.mp hp with rfl | hp
    · exact h1
    · exact allLt_mem h2 p hp
noncomputable def Above (news tl : Ledger) : Prop := ∀ x ∈ tl, ∀ p ∈ news, p.1 ≠ x.1
theorem AllLt.up {a b : Addr} : ∀ {l : Ledger}, AllLt a l → a < b → AllLt b l
  | [], _, _ => trivial
  | _ :: _, h, k => ⟨Nat.lt_trans h.1 k, AllLt.up h.2 k⟩
theorem Above.nil {news : Ledger} : Above news [] := fun _ h => nomatch h
theorem Above.consNe {news tl : Ledger} {p : Addr × Obj} (h : ∀ q ∈ news, q.1 ≠ p.1) (k : Above news tl) : Above news (p :: tl) := fun x hx => by
  rcases List.mem_cons.mp hx with rfl | hx
  · exact h
  · exact k x hx
theorem Above.cons {news tl : Ledger} {p : Addr × Obj} (h : AllLt p.1 news) (k : Above news tl) : Above news (p :: tl) := .consNe (allLt_ne h) k
theorem off1_ne {D : Addr} : ∀ {l : Ledger}, LCg.Off1 D l → ∀ q ∈ l, q.1 ≠ D
  | [], _, _, h => nomatch h
  | q :: r, ⟨h1, h2⟩, p, hp => by
    rcases List.mem_cons.mp hp with rfl | hp
    · exact h1
    · exact off1_ne h2 p hp
theorem ne_sub {D : Addr} {l l' : Ledger} (h : ∀ q ∈ l, q.1 ≠ D) (s : ∀ p ∈ l', p ∈ l) : ∀ q ∈ l', q.1 ≠ D := fun q hq => h q (s q hq)
theorem ne_mem {D P : Addr} {o : Obj} {l : Ledger} (h : ∀ q ∈ l, q.1 ≠ D) (k : (P, o) ∈ l) : P ≠ D := h _ k
theorem ne_above {D P : Addr} {o oD : Obj} {l tl : Ledger} (h : Above l tl) (k : (P, o) ∈ l) (k' : (D, oD) ∈ tl) : P ≠ D := h _ k' _ k
theorem above_ne {D : Addr} {o : Obj} {news tl : Ledger} (h : Above news tl) (m : (D, o) ∈ news) : ∀ p ∈ tl, p.1 ≠ D := fun p hp => Ne.symm (h p hp _ m)
theorem allLt_left {D : Addr} {a b : Ledger} (h : AllLt D (a ++ b)) : AllLt D a := allLt_of fun p hp => allLt_mem h p (List.mem_append_left _ hp)
theorem allLt_right {D : Addr} {a b : Ledger} (h : AllLt D (a ++ b)) : AllLt D b := allLt_of fun p hp => allLt_mem h p (List.mem_append_right _ hp)
local macro_rules | `(tactic| k_all) => `(tactic| k_extra "ALL")
local macro_rules | `(tactic| k_ne) => `(tactic| k_extra "NE")
local macro_rules | `(tactic| k_in) => `(tactic| k_extra "IN")
local macro_rules | `(tactic| k_mem) => `(tactic| k_extra "MEM")
local macro_rules | `(tactic| k_ownIn) => `(tactic| k_extra "OWN")
local macro_rules | `(tactic| ktr_units) => `(tactic| k_extra "UNITS")
theorem reg1 : True := by
  k_with "ALL" => first | exact List.forall_mem_nil _ | (refine' List.forall_mem_cons.mpr ⟨?za, ?zb⟩; (case za => k_ne); (case zb => k_all)) | assumption | exact allLt_ne (by assumption) | (refine List.forall_mem_append.mpr ⟨?_, ?_⟩ <;> k_all) | exact above_ne (by assumption) (by k_mem) | (refine ne_sub (by assumption) ?_; intro p hp; k_ownIn) | fail "mine"
  k_with "NE" => first | exact ne_mem (by assumption) (by k_mem) | exact Ne.symm (ne_mem (by assumption) (by k_mem)) | fail "mine"
  k_with "NE" => first | assumption | (refine Ne.symm ?_; assumption) | exact Nat.ne_of_lt (by assumption) | exact Nat.ne_of_gt (by assumption) | fail "mine"
  k_with "IN" => first | assumption | exact Frag.In.keeps (K := hd.heap_1 _) (by assumption) (Fr.keep (by assumption)) | fail "mine"
  k_with "FinE" => ((unfold LCg.FinE); intros; (rename_i n9 o9; replace o9 := off1_ne o9; (try simp only [List.nil_append, List.cons_append] at n9); revert n9 o9; intros); (try dsimp only))
  k_with "MEM" => first | assumption | exact List.Mem.head _ | (refine List.Mem.tail _ ?_; k_mem) | (refine List.mem_append_right _ ?_; k_mem) | (refine List.mem_append_left _ ?_; k_mem)
  k_with "OWN" => first | assumption | (refine List.Mem.tail _ ?_; k_ownIn) | (refine List.mem_append_right _ ?_; k_ownIn) | (refine List.mem_append_left _ ?_; k_ownIn)
  trivial
inductive Mv (tl sym : Ledger) : Ledger → Ledger → Prop
  | nil : Mv tl sym sym (tl ++ sym)
  | cons {p : Addr × Obj} {l l' : Ledger} : Mv tl sym l l' → Mv tl sym (p :: l) (p :: l')
theorem Mv.sub {tl sym l l' : Ledger} (h : Mv tl sym l l') : ∀ p ∈ l', p ∈ tl ++ l := by
  induction h with
  | nil => exact fun p hp => hp
  | cons h ih =>
    intro p hp
    rcases List.mem_cons.mp hp with rfl | hp
    · exact List.mem_append_right _ (.head _)
    · rcases List.mem_append.mp (ih p hp) with h | h
      · exact List.mem_append_left _ h
      · exact List.mem_append_right _ (.tail _ h)
theorem Mv.sym {tl sym l l' : Ledger} (h : Mv tl sym l l') : ∀ p ∈ sym, p ∈ l := by
  induction h with
  | nil => exact fun p hp => hp
  | cons h ih => exact fun p hp => .tail _ (ih p hp)
theorem reg2 : True := by
  k_with "MV" => first | (refine' Mv.cons ?zmv1; (case zmv1 => walk_at "MV")) | exact Mv.nil
  k_with "SUB" => (intro p hp; k_ownIn)
  trivial
local macro_rules | `(tactic| k_room) => `(tactic| ktr_room)
theorem lt0 {B a : Addr} {o : Obj} (h : AllLt B [(a, o)]) : @LT.lt Nat _ a B := h.1
theorem lt1 {B a : Addr} {o : Obj} {l : Ledger} (h : AllLt B ((a, o) :: l)) : @LT.lt Nat _ a B := h.1
theorem lt2 {B a : Addr} {o : Obj} {l : Ledger} (h : AllLt B ((a, o) :: l)) : AllLt B l := h.2
local macro_rules | `(tactic| k_lt $h) => `(tactic| (replace $h := allLt_of $h; repeat (first | (replace $h := lt0 $h) | (have _ := lt1 $h; replace $h := lt2 $h))))
theorem AllLt.sub {D : Addr} {big small : Ledger} (h : AllLt D big) (k : ∀ p ∈ small, p ∈ big) : AllLt D small := allLt_of fun p hp => allLt_mem h p (k p hp)
theorem Above.sub {big small tl : Ledger} (h : Above big tl) (k : ∀ p ∈ small, p ∈ big) : Above small tl := fun x hx p hp => h x hx p (k p hp)
theorem Above.append {news a b : Ledger} (h : Above news a) (k : Above news b) : Above news (a ++ b) := fun x hx => (List.mem_append.mp hx).elim (h x) (k x)
theorem newsSub {h₀ h : Heap} {L : Addr} {news news' : Ledger} (N : News h₀ L h news) (k : ∀ p ∈ news', p ∈ news) : News h₀ L h news' := fun p hp => N p (k p hp)
theorem news_tl {h₀ h : Heap} {L : Addr} {full news a tl sym : Ledger} (N : News h₀ L h full) (k : ∀ p ∈ tl ++ news, p ∈ full) (g : Mv tl sym news a) : News h₀ L h a := newsSub N fun p hp => k p (g.sub p hp)
theorem reg3 : True := by
  k_with "LT" => ((try dsimp only); first | exact True.intro | assumption | (refine AllLt.sub (by assumption) ?_; intro p hp; k_ownIn) | (refine And.intro (by omega) ?_; walk_at "LT") | (refine AllLt.up ?_ (by assumption); walk_at "LT") | (refine AllLt.up ?_ (Nat.lt_succ_self _); walk_at "LT"))
  k_with "ABOVE" => first | exact Above.nil | assumption | (refine Above.cons ?_ ?_; walk_at "LT"; walk_at "ABOVE") | (refine Above.consNe (ne_sub (by assumption) ?_) ?_; walk_at "SUB"; walk_at "ABOVE") | (refine Above.append ?_ ?_ <;> walk_at "ABOVE") | (refine Above.sub (by assumption) ?_; intro p hp; k_ownIn)
  trivial
inductive Spl (news : Ledger) : Ledger → Ledger → Prop
  | nil : Spl news news []
  | cons {p : Addr × Obj} {l tl : Ledger} : Spl news l tl → Spl news (p :: l) (p :: tl)
  | app {a l tl : Ledger} : Spl news l tl → Spl news (a ++ l) (a ++ tl)
theorem Spl.eq {news l tl : Ledger} (h : Spl news l tl) : tl ++ news = l := by
  induction h with
  | nil => rfl
  | cons _ ih => rw [List.cons_append, ih]
  | app _ ih => rw [List.append_assoc, ih]
theorem news_spl {h₀ h : Heap} {L : Addr} {full news a tl sym : Ledger} (N : News h₀ L h full) (k : Spl news full tl) (g : Mv tl sym news a) : News h₀ L h a := newsSub N fun p hp => k.eq ▸ g.sub p hp
theorem reg4 : True := by
  k_with "SPL" => first | exact Spl.nil | (refine' Spl.cons ?zsp1; (case zsp1 => walk_at "SPL")) | (refine' Spl.app ?zsp1; (case zsp1 => walk_at "SPL"))
  k_with "DATS" => first | exact DatAll.nil | (refine DatAll.cons ?_ ?_; walk_at "DAT"; walk_at "DATS")
  k_with "DAT" => first | exact DatIn.int _ _ | exact DatIn.bool _ | exact DatIn.str _ _ | exact DatIn.none | (refine DatIn.mono ?_ (by assumption); intro p hp; k_ownIn) | (refine DatIn.tuple (by k_mem) ?_; walk_at "DATS")
  k_with "CX" => (refine' Cx.of ?zcB ?zcF ?zcX ?zcN ?zcT ?zcK ?zcH ?zcE ?zcD ?zcU; (case zcE => exact rfl); (case zcH => exact rfl); (case zcK => first | exact rfl | assumption); (case zcF => k_asm); (case zcN => k_asm); (case zcB => k_asm); (case zcX => k_asm); (case zcT => k_asm); (case zcD => ktr_room); (case zcU => ktr_units))
  trivial
local macro_rules | `(tactic| walk_at "OPEN") => `(tactic| ((rename Around => A'); obtain ⟨hd', dp', fr', gd', un'⟩ := A'; (rename Cx _ _ _ _ _ _ _ _ _ => cx'); refine Cx.elim cx' ?_; clear cx'; intro mean' mg' mb' base' A₀' outer' cn' cs' a' ccd' cl' Bl' F' X' N' T' hk' hh' hf' hdp' hun'; (dsimp only at hh' hf' hdp' hun'); subst hh' hf'; revert X' T'; k_fill; intro X' T'))
theorem reg5 : True := by
  k_with "ENTER" => (walk_at "OPEN"; refine wpAny_call ?_; k_dflt cell_enter)
  k_with "ENTC1" => (k_dflt (refine' code_defC ?zk1 ?zk2 ?zk3 ?zk4 ?zk5 ?zkA ?zkF ?zkK ?zk6 ?zk7 ?zk8 ?zk9 ?zkB ?zkD ?_ ?zc2 ?zc3 ?zc4; (case zkA => exact rfl); (case zkF => exact rfl); (case zkK => assumption); (case zk1 => k_asm); (case zk2 => k_asm); (case zk3 => k_asm); (case zk4 => k_asm); (case zk5 => k_asm); (case zk6 => k_is); (case zk7 => k_is); (case zk8 => ktr_room); (case zk9 => exact BindsTo.of_eq rfl); (case zkB => exact rfl); (case zkD => decide +kernel); (case zc2 => exact rfl); (case zc3 => exact rfl); (case zc4 => exact rfl); k_whole))
  trivial
local macro_rules | `(tactic| walk_at "ENTC2") => `(tactic| (k_dflt (intro g' L' h' tk' cells' FG' F' N' Y' B' X' T' l1; (try k_lt l1); k_cells Y'; (try simp only [List.cons_append, List.nil_append] at N'); (try dsimp only); (try k_lift B'); (try k_fold))))
theorem reg6 : True := by
  k_with "ENTERC" => (walk_at "OPEN"; refine wpAny_call ?_; walk_at "ENTC1"; walk_at "ENTC2")
  k_with "DROP" => (refine newsSub (by assumption) ?_; intro p hp; k_ownIn)
  trivial
theorem sub_refl {news : Ledger} : ∀ p ∈ news, p ∈ news := fun _ h => h
/-! B1 -/
/-! the pen: a list of the script's list, a seat, a great -/
noncomputable abbrev penObj (l : Addr) (seat great : Int) (t1 t2 : Tok) (n : Nat) : Obj := { cls := .type "list", data := .seq #[.ref l, .int seat t1, .int great t2] n }
noncomputable def Pen (l : Addr) (B : Int) (o : Obj) : Prop := ∃ seat great t1 t2 n, o = penObj l seat great t1 t2 n ∧ 0 ≤ seat ∧ seat ≤ B ∧ 0 ≤ great
noncomputable def Script (news : Ledger) (l : Addr) : Prop := ∃ (vs : List Value) (ns : List Int) (k : Nat), (l, ({ cls := .type "list", data := .seq vs.toArray k } : Obj)) ∈ news ∧ IntsAre vs ns ∧ ns.length ≤ 40
section
variable {w : World} {prog : Program} {A : Around} {E : Value → Shared → Prop} {s : Shared} {Q : Value → Shared → Prop} {c v seat : Int} {t u : Tok}
theorem pow_any {a : Int} {t u : Tok} (hb : a.natAbs < 2 ^ 64) (h : ∀ v, Q (.int v s.toks) { s with toks := s.toks + 1 }) : wpAny (model prog w) A (binaryOp .Pow (.int a t) (.int 3 u)) Q E s :=
  pow_int_small (by decide) (by decide) hb (h _)
theorem pow_b1 {c seat : Int} (h0 : 0 ≤ seat) (h1 : seat < 10000) : (Int.fmod c 2147483629 + 40503 * seat + 977).natAbs < 2 ^ 64 := by
  have a := fmod_lo c (n := 2147483629) (by decide)
  have b := fmod_hi c (n := 2147483629) (by decide)
  omega
theorem pow_b2 {v seat : Int} (h0 : 0 ≤ seat) (h1 : seat < 10000) : (Int.fmod v 2147483587 * (2 * seat + 5003) + seat * seat + 11).natAbs < 2 ^ 64 := by
  have a := fmod_lo v (n := 2147483587) (by decide)
  have b := fmod_hi v (n := 2147483587) (by decide)
  generalize Int.fmod v 2147483587 = x at *
  have e1 : 0 ≤ x * (2 * seat + 5003) := Int.mul_nonneg a (by omega)
  have e2 : x * (2 * seat + 5003) ≤ 2147483587 * 30000 := Int.mul_le_mul (by omega) (by omega) (by omega) (by omega)
  have e3 : 0 ≤ seat * seat := Int.mul_nonneg h0 h0
  have e4 : seat * seat ≤ 10000 * 10000 := Int.mul_le_mul (by omega) (by omega) (by omega) (by omega)
  omega
theorem pow_1 (h0 : 0 ≤ seat) (h1 : seat < 10000) (h : ∀ v, Q (.int v s.toks) { s with toks := s.toks + 1 }) : wpAny (model prog w) A (binaryOp .Pow (.int (Int.fmod c 2147483629 + 40503 * seat + 977) t) (.int 3 u)) Q E s := pow_any (pow_b1 h0 h1) h
theorem pow_2 (h0 : 0 ≤ seat) (h1 : seat < 10000) (h : ∀ v, Q (.int v s.toks) { s with toks := s.toks + 1 }) : wpAny (model prog w) A (binaryOp .Pow (.int (Int.fmod v 2147483587 * (2 * seat + 5003) + seat * seat + 11) t) (.int 3 u)) Q E s := pow_any (pow_b2 h0 h1) h
theorem pow_3 (h : Q (.int 1000000000000000000 s.toks) { s with toks := s.toks + 1 }) : wpAny (model prog w) A (binaryOp .Pow (.int 10 t) (.int 18 u)) Q E s := pow_int_small (by decide) (by decide) (by decide) h
end
section
theorem reg7 : True := by
  k_with "binaryOp Pow int int" => first | (with_reducible refine pow_3 ?_) | (with_reducible refine pow_1 (by assumption) (by assumption) ?_; intro _) | (with_reducible refine pow_2 (by assumption) (by assumption) ?_; intros)
  trivial
theorem draw_one {w : World} {A : Around} {h₀ : Heap} {L : Addr} {m : Str → Option Value} {s : Shared} {P l : Addr} {seat great many : Int} {t1 t2 tm : Tok} {n k : Nat} {vs : List Value} {ns : List Int} {rest : Ledger} {Q E : Value → Shared → Prop}
   (cx : Cx w A h₀ L m s ((P, penObj l seat great t1 t2 n) :: (l, { cls := .type "list", data := .seq vs.toArray k }) :: rest) 1 8)
   (hP : ∀ p ∈ ((l, { cls := .type "list", data := .seq vs.toArray k }) :: rest : Ledger), p.1 ≠ P) (hs0 : 0 ≤ seat) (hs1 : seat < 10000) (hg : 0 ≤ great) (hm : 0 < many) (hm2 : many < 1000) (hi : IntsAre vs ns) (hl : ns.length ≤ 40)
   (ret : ∀ d t seat' great' t1' t2' h' tk', 0 ≤ d → d < many → 0 ≤ seat' → seat' ≤ seat + 1 → 0 ≤ great' → Fr h₀ L h' m → News h₀ L h' ((P, penObj l seat' great' t1' t2' n) :: (l, { cls := .type "list", data := .seq vs.toArray k }) :: rest) → Q (.int d t) { s with heap := h', toks := tk' }) :
   wpAny (model Challenge.rw_pb0171_01.row.toRowW.prog w) A (call (.ref 259) [.ref P, .int many tm]) Q E s := by
  refine Cx.elim cx ?_
  (try clear cx)
  intro mean mg mb base A₀ outer cn cs a ccd cl B F X N T hk hh hf hdp hun
  obtain ⟨hd, dp, fr, gd, un⟩ := A
  dsimp only at hh hf hdp hun
  subst hh hf
  revert X T
  k_fill
  intro X T
  refine wpAny_call ?_
  k_dflt cell_enter
  k_steps
  all_goals (
    (try simp only [decide_eq_true_eq, decide_eq_false_iff_not, Bool.and_eq_true, Bool.not_eq_true'] at *)
    refine ret _ _ _ _ _ _ _ _ (fmod_lo _ hm) (fmod_hi _ hm) ?_ ?_ ?_ (by assumption) (by assumption) <;> first | omega | (exact Int.fdiv_nonneg (by omega) (by omega)))
end
theorem draw_call {w : World} {A : Around} {h₀ : Heap} {L : Addr} {m : Str → Option Value} {s : Shared} {news : Ledger} {P l : Addr} {o : Obj} {F : Obj → Ledger} {B many : Int} {tm : Tok} {Q E : Value → Shared → Prop}
   (cx : Cx w A h₀ L m s news 1 8) (hp : Pen l B o) (hB : B < 9999) (U : ∀ o', Upd P o o' news (F o')) (hl : Script news l) (hm : 0 < many) (hm2 : many < 1000)
   (ret : ∀ d t o' h' tk', 0 ≤ d → d < many → Pen l (B + 1) o' → Fr h₀ L h' m → News h₀ L h' (F o') → Q (.int d t) { s with heap := h', toks := tk' }) :
   wpAny (model Challenge.rw_pb0171_01.row.toRowW.prog w) A (call (.ref 259) [.ref P, .int many tm]) Q E s := by
  obtain ⟨seat, great, t1, t2, n, rfl, h0, h1, h2⟩ := hp
  obtain ⟨vs, ns, k, hmem, hi, hlen⟩ := hl
  have N := cx.news
  have hPold := upd_old (U (penObj l seat great t1 t2 n))
  have hne : l ≠ P := by
    intro e
    subst e
    have a := (N _ hPold).1
    have b := (N _ hmem).1
    dsimp only at a b
    rw [a] at b
    have c := congrArg Obj.data (Option.some.inj b)
    dsimp only at c
    have d := (Data.seq.inj c).1
    have e := congrArg Array.toList d
    simp at e
    rw [← e] at hi
    cases hi
  refine draw_one (l := l) (n := n) (t1 := t1) (t2 := t2) (k := k) (vs := vs) (ns := ns) (rest := news.filter fun p => decide (p.1 ≠ P)) (cx.sub ?_) ?_ h0 (by omega) h2 hm hm2 hi hlen ?_
  · intro p hp
    rcases List.mem_cons.mp hp with rfl | hp
    · exact hPold
    · rcases List.mem_cons.mp hp with rfl | hp
      · exact hmem
      · exact (List.mem_filter.mp hp).1
  · intro p hp
    rcases List.mem_cons.mp hp with rfl | hp
    · exact hne
    · simpa using (List.mem_filter.mp hp).2
  · intro d t seat' great' t1' t2' h' tk' e1 e2 e3 e4 e5 F' N'
    refine ret d t _ h' tk' e1 e2 ⟨seat', great', t1', t2', n, rfl, e3, by omega, e5⟩ F' fun p hp => ?_
    rcases upd_mem (U _) p hp with rfl | ⟨hp, hne⟩
    · exact N' _ (.head _)
    · exact N' _ (.tail _ (.tail _ (List.mem_filter.mpr ⟨hp, by simpa using hne⟩)))
theorem Script.mono {news news' : Ledger} {l : Addr} (h : Script news l) (k : ∀ p ∈ news, p ∈ news') : Script news' l := by
  obtain ⟨vs, ns, n, h1, h2⟩ := h
  exact ⟨vs, ns, n, k _ h1, h2⟩
theorem reg8 : True := by
  k_with "call ref" => (k_here; k_dflt (show wpAny _ _ (call (Value.ref 259) [Value.ref _, Value.int _ _]) _ _ _); k_dflt (refine' draw_call ?zcx ?zhp ?zhB ?zU ?zhl ?zhm ?zhm2 ?_; (case zcx => walk_at "CX"); (case zU => intro o'; k_upd); (case zhp => assumption); (case zhB => omega); (case zhl => refine Script.mono (by assumption) ?_; intro p hp; k_ownIn); (case zhm => omega); (case zhm2 => omega); intros))
  trivial
/-! B2 -/
noncomputable def ValAt (news : Ledger) (x : Addr) (a b c d : Int) : Prop := ∃ (dx : Addr) (h1 h2 h3 h4 : Int) (t1 t2 t3 t4 u1 u2 u3 u4 : Tok) (n : Nat), (x, instObj 248 dx) ∈ news ∧
  (dx, dictOf [⟨h1, .str "x_offset" t1, .int a u1⟩, ⟨h2, .str "y_offset" t2, .int b u2⟩, ⟨h3, .str "x_advance" t3, .int c u3⟩, ⟨h4, .str "y_advance" t4, .int d u4⟩] n) ∈ news
noncomputable def PairAt (news : Ledger) (v : Value) (p q : Int) : Prop := ∃ (y x1 x2 : Addr) (n : Nat), v = .ref y ∧ (y, ({ cls := .type "tuple", data := .seq #[.ref x1, .ref x2] n } : Obj)) ∈ news ∧ ValAt news x1 0 0 p 0 ∧ ValAt news x2 0 0 0 q
theorem ValAt.elim {news : Ledger} {x : Addr} {a b c d : Int} {motive : Prop} (h : ValAt news x a b c d)
    (k : ∀ (dx : Addr) (h1 h2 h3 h4 : Int) (t1 t2 t3 t4 u1 u2 u3 u4 : Tok) (n : Nat), (x, instObj 248 dx) ∈ news → (dx, dictOf [⟨h1, .str "x_offset" t1, .int a u1⟩, ⟨h2, .str "y_offset" t2, .int b u2⟩, ⟨h3, .str "x_advance" t3, .int c u3⟩, ⟨h4, .str "y_advance" t4, .int d u4⟩] n) ∈ news → motive) : motive := by
  obtain ⟨dx, h1, h2, h3, h4, t1, t2, t3, t4, u1, u2, u3, u4, n, m1, m2⟩ := h
  exact k dx h1 h2 h3 h4 t1 t2 t3 t4 u1 u2 u3 u4 n m1 m2
theorem PairAt.elim {news : Ledger} {v : Value} {p q : Int} {motive : Prop} (h : PairAt news v p q)
    (k : ∀ (y x1 x2 : Addr) (n : Nat), v = .ref y → (y, ({ cls := .type "tuple", data := .seq #[.ref x1, .ref x2] n } : Obj)) ∈ news → ValAt news x1 0 0 p 0 → ValAt news x2 0 0 0 q → motive) : motive := by
  obtain ⟨y, x1, x2, n, e, m, v1, v2⟩ := h
  exact k y x1 x2 n e m v1 v2
theorem value_call {w : World} {A : Around} {h₀ : Heap} {L : Addr} {m : Str → Option Value} {s : Shared} {rest : Ledger} {P l : Addr} {o : Obj} {B : Int} {Q E : Value → Shared → Prop}
   (cx : Cx w A h₀ L m s ((P, o) :: rest) 10 80) (hP : ∀ p ∈ rest, p.1 ≠ P) (hp : Pen l B o) (hB : B < 9990) (hl : Script rest l)
   (ret : ∀ v p q o' h' tk' tl, PairAt tl v p q → Pen l (B + 2) o' → Fr h₀ L h' m → News h₀ L h' (tl ++ (P, o') :: rest) → Above ((P, o) :: rest) tl → Q v { s with heap := h', toks := tk' }) :
   wpAny (model Challenge.rw_pb0171_01.row.toRowW.prog w) A (call (.ref 266) [.ref P]) Q E s := by
  refine Cx.elim cx ?_
  (try clear cx)
  intro mean mg mb base A₀ outer cn cs a ccd cl Bl F X N T hk hh hf hdp hun
  obtain ⟨hd, dp, fr, gd, un⟩ := A
  dsimp only at hh hf hdp hun
  subst hh hf
  revert X T
  k_fill
  intro X T
  refine wpAny_call ?_
  k_dflt cell_enter
  k_steps
  refine' ret _ _ _ _ _ _ [_, _, _, _, _] ?e1 ?e2 (by assumption) (by assumption) ?e3
  case e1 => exact ⟨_, _, _, _, rfl, by k_mem, ⟨_, _, _, _, _, _, _, _, _, _, _, _, _, _, by k_mem, by k_mem⟩, ⟨_, _, _, _, _, _, _, _, _, _, _, _, _, _, by k_mem, by k_mem⟩⟩
  case e2 =>
    have e : B + 2 = B + 1 + 1 := by omega
    rw [e]; assumption
  case e3 => walk_at "ABOVE"
/-! B3 -/
theorem ValAt.mono {news news' : Ledger} {x : Addr} {a b c d : Int} (h : ValAt news x a b c d) (k : ∀ p ∈ news, p ∈ news') : ValAt news' x a b c d := by
  obtain ⟨dx, h1, h2, h3, h4, t1, t2, t3, t4, u1, u2, u3, u4, n, m1, m2⟩ := h
  exact ⟨dx, h1, h2, h3, h4, t1, t2, t3, t4, u1, u2, u3, u4, n, k _ m1, k _ m2⟩
theorem PairAt.mono {news news' : Ledger} {v : Value} {p q : Int} (h : PairAt news v p q) (k : ∀ p ∈ news, p ∈ news') : PairAt news' v p q := by
  obtain ⟨y, x1, x2, n, e, m, v1, v2⟩ := h
  exact ⟨y, x1, x2, n, e, k _ m, v1.mono k, v2.mono k⟩
noncomputable abbrev tupI (l : List Int) : Dat := .tuple (l.map .int)
theorem vtold_call {w : World} {A : Around} {h₀ : Heap} {L : Addr} {m : Str → Option Value} {s : Shared} {news sym : Ledger} {G : Ledger → Ledger} {x : Addr} {a b c d : Int} {Q E : Value → Shared → Prop}
   (cx : Cx w A h₀ L m s news 1 8) (hG : ∀ tl, Mv tl sym news (G tl)) (hv : ValAt news x a b c d)
   (ret : ∀ v h' tk' tl, DatIn tl v (tupI [a, b, c, d]) → Above news tl → Fr h₀ L h' m → News h₀ L h' (G tl) → Q v { s with heap := h', toks := tk' }) :
   wpAny (model Challenge.rw_pb0171_01.row.toRowW.prog w) A (call (.ref 238) [.ref x]) Q E s := by
  refine ValAt.elim hv ?_
  (try clear hv)
  intro dx h1 h2 h3 h4 t1 t2 t3 t4 u1 u2 u3 u4 n m1 m2
  walk_at "ENTER"
  k_steps
  refine' ret _ _ _ _ ?e1 ?e2 (by assumption) (news_spl (by assumption) ?e3 (hG _))
  case e3 => walk_at "SPL"
  case e1 => walk_at "DAT"
  case e2 => walk_at "ABOVE"
theorem nothing_call {w : World} {A : Around} {h₀ : Heap} {L : Addr} {m : Str → Option Value} {s : Shared} {news : Ledger} {x : Addr} {q : Int} {Q E : Value → Shared → Prop}
   (cx : Cx w A h₀ L m s news 3 80) (hv : ValAt news x 0 0 0 q)
   (ret : ∀ h' tk', Fr h₀ L h' m → News h₀ L h' news → Q (.bool (decide (q = 0))) { s with heap := h', toks := tk' }) :
   wpAny (model Challenge.rw_pb0171_01.row.toRowW.prog w) A (call (.ref 245) [.ref x]) Q E s := by
  refine ValAt.elim hv ?_
  (try clear hv)
  intro dx h1 h2 h3 h4 t1 t2 t3 t4 u1 u2 u3 u4 n m1 m2
  walk_at "ENTER"
  k_steps
  rw [show (q == 0) = decide (q = 0) from rfl]
  exact ret _ _ (by assumption) (by walk_at "DROP")
theorem reg9 : True := by
  k_with "call ref" => (k_here; k_dflt (show wpAny _ _ (call (Value.ref 238) [Value.ref _]) _ _ _); k_dflt (refine' vtold_call ?zcx ?zhG ?zhv ?_; (case zcx => walk_at "CX"); (case zhG => intro tl'; walk_at "MV"); (case zhv => refine ValAt.mono (by assumption) ?_; walk_at "SUB"); intros))
  k_with "call ref" => (k_here; k_dflt (show wpAny _ _ (call (Value.ref 245) [Value.ref _]) _ _ _); k_dflt (refine' nothing_call ?zcx ?zhv ?_; (case zcx => walk_at "CX"); (case zhv => refine ValAt.mono (by assumption) ?_; walk_at "SUB"); intros))
  trivial
noncomputable abbrev pairD (p q : Int) : Dat := .tuple [tupI [0, 0, p, 0], tupI [0, 0, 0, q]]
theorem ptold_call {w : World} {A : Around} {h₀ : Heap} {L : Addr} {m : Str → Option Value} {s : Shared} {news sym : Ledger} {G : Ledger → Ledger} {v : Value} {p q : Int} {Q E : Value → Shared → Prop}
   (cx : Cx w A h₀ L m s news 3 80) (hG : ∀ tl, Mv tl sym news (G tl)) (hv : PairAt news v p q)
   (ret : ∀ v h' tk' tl, DatIn tl v (pairD p q) → Above news tl → Fr h₀ L h' m → News h₀ L h' (G tl) → Q v { s with heap := h', toks := tk' }) :
   wpAny (model Challenge.rw_pb0171_01.row.toRowW.prog w) A (call (.ref 134) [v]) Q E s := by
  refine PairAt.elim hv ?_
  (try clear hv)
  intro y x1 x2 n e9 hm v1 v2
  subst e9
  have v1' := v1
  have v2' := v2
  refine ValAt.elim v1' ?_
  (try clear v1')
  intro dx h1 h2 h3 h4 t1 t2 t3 t4 u1 u2 u3 u4 n m1 m2
  refine ValAt.elim v2' ?_
  (try clear v2')
  intro dy g1 g2 g3 g4 s1 s2 s3 s4 r1 r2 r3 r4 k m3 m4
  walk_at "ENTER"
  k_steps
  refine' ret _ _ _ _ ?e1 ?e2 (by assumption) (news_spl (by assumption) ?e3 (hG _))
  case e3 => walk_at "SPL"
  case e1 => walk_at "DAT"
  case e2 => walk_at "ABOVE"
/-! S1 -/
/-! the sort's tree of questions, asked of keys that are pairwise unlike -/
section
variable {n : Nat} {key : Nat → Int}
noncomputable def PW (n : Nat) (key : Nat → Int) {α : Type} : KasT α → (α → Prop) → Prop
  | .ret a, Q => Q a
  | .ask i j k, Q => i < n ∧ j < n ∧ PW n key (k (decide (key i < key j))) Q
theorem pw_bind {α β : Type} {f : α → KasT β} {Q : β → Prop} : ∀ (t : KasT α), PW n key t (fun a => PW n key (f a) Q) → PW n key (t.bind f) Q
  | .ret _, h => h
  | .ask _ _ k, ⟨a, b, h⟩ => ⟨a, b, pw_bind (k _) h⟩
theorem pw_wp {α : Type} {ask : Nat → Nat → (Bool → Shared → Prop) → Shared → Prop} {s : Shared} (h : ∀ i j C, i < n → j < n → C (decide (key i < key j)) s → ask i j C s) {Q : α → Shared → Prop} :
    ∀ (t : KasT α), PW n key t (fun a => Q a s) → t.kasWp ask Q s
  | .ret _, q => q
  | .ask i j k, ⟨a, b, q⟩ => h i j _ a b (pw_wp h (k _) q)
theorem pw_t {α : Type} {a b : KasT α} {Q : α → Prop} (h : PW n key a Q) : PW n key ((fun c : Bool => if c = true then a else b) true) Q := by simpa using h
theorem pw_f {α : Type} {a b : KasT α} {Q : α → Prop} (h : PW n key b Q) : PW n key ((fun c : Bool => if c = true then a else b) false) Q := by simpa using h
noncomputable abbrev Kp (key : Nat → Int) (p : Array Nat) (i : Nat) : Int := key (p.getD i 0)
noncomputable def Okp (n : Nat) (p : Array Nat) : Prop := p.Perm (List.range n).toArray
noncomputable def Dif (n : Nat) (key : Nat → Int) : Prop := ∀ i j, i < n → j < n → key i = key j → i = j
noncomputable def Asc (key : Nat → Int) (p : Array Nat) (m : Nat) : Prop := ∀ i j, i < j → j < m → Kp key p i < Kp key p j
noncomputable def Desc (key : Nat → Int) (p : Array Nat) (m : Nat) : Prop := ∀ i j, i < j → j < m → Kp key p j < Kp key p i
theorem okp_size {p : Array Nat} (h : Okp n p) : p.size = n := by have := h.size_eq; simpa using this
theorem okp_lt {p : Array Nat} (h : Okp n p) {i : Nat} (hi : i < n) : p.getD i 0 < n := by
  have hs := okp_size h
  have e : p.getD i 0 = p[i]'(by omega) := by simp [Array.getD, hs, hi]
  have hm : p[i]'(by omega) ∈ p := Array.getElem_mem _
  have := (h.mem_iff).mp hm
  rw [e]
  simpa using this
theorem okp_ne {p : Array Nat} (h : Okp n p) (d : Dif n key) {i j : Nat} (hi : i < n) (hj : j < n) (hne : i ≠ j) : Kp key p i ≠ Kp key p j := by
  intro e
  have hs := okp_size h
  have e1 := d _ _ (okp_lt h hi) (okp_lt h hj) e
  have hn : p.toList.Nodup := by
    have hp : p.toList.Perm (List.range n) := Array.perm_iff_toList_perm.mp h
    exact hp.nodup_iff.mpr List.nodup_range
  have ei : p.getD i 0 = p.toList[i]'(by simpa [hs] using hi) := by simp [Array.getD, hs, hi]
  have ej : p.getD j 0 = p.toList[j]'(by simpa [hs] using hj) := by simp [Array.getD, hs, hj]
  rw [ei, ej] at e1
  exact hne ((List.getElem_inj hn).mp e1)
theorem asc_succ {p : Array Nat} {m : Nat} (h : Asc key p m) (h1 : 1 ≤ m) (hk : Kp key p (m - 1) < Kp key p m) : Asc key p (m + 1) := by
  intro i j hij hj
  by_cases e : j = m
  · subst e
    by_cases e2 : i = j - 1
    · subst e2; exact hk
    · have := h i (j - 1) (by omega) (by omega); omega
  · exact h i j hij (by omega)
theorem desc_succ {p : Array Nat} {m : Nat} (h : Desc key p m) (h1 : 1 ≤ m) (hk : Kp key p m < Kp key p (m - 1)) : Desc key p (m + 1) := by
  intro i j hij hj
  by_cases e : j = m
  · subst e
    by_cases e2 : i = j - 1
    · subst e2; exact hk
    · have := h i (j - 1) (by omega) (by omega); omega
  · exact h i j hij (by omega)
theorem pw_asc {p : Array Nat} (hp : Okp n p) (d : Dif n key) {Q : Nat → Prop} : ∀ (f m : Nat), 1 ≤ m → m + f ≤ n → (∀ r, m ≤ r → r ≤ m + f → (Asc key p m → Asc key p r) → (r < m + f → Kp key p r < Kp key p (r - 1)) → Q r) → PW n key (kas_asc p f m) Q
  | 0, m, _, _, h => h m (Nat.le_refl _) (Nat.le_refl _) id (fun x => absurd x (Nat.lt_irrefl _))
  | f + 1, m, h1, hf, h => by
    refine ⟨okp_lt hp (by omega), okp_lt hp (by omega), ?_⟩
    by_cases c : Kp key p m < Kp key p (m - 1)
    · rw [show decide (key (p.getD m 0) < key (p.getD (m - 1) 0)) = true from decide_eq_true c]; refine pw_t ?_
      exact h m (Nat.le_refl _) (by omega) id (fun _ => c)
    · rw [show decide (key (p.getD m 0) < key (p.getD (m - 1) 0)) = false from decide_eq_false c]; refine pw_f ?_
      have hne := okp_ne hp d (i := m) (j := m - 1) (by omega) (by omega) (by omega)
      exact pw_asc hp d f (m + 1) (by omega) (by omega) fun r a b c1 c2 => h r (by omega) (by omega) (fun hm => c1 (asc_succ hm h1 (by omega))) (fun x => c2 (by omega))
theorem pw_desc {p : Array Nat} (hp : Okp n p) (d : Dif n key) {Q : Array Nat × Nat × Nat → Prop} : ∀ (f m : Nat), 1 ≤ m → m + f ≤ n → (∀ r, m ≤ r → r ≤ m + f → (Desc key p m → Desc key p r) → Q (p, r, 0)) → PW n key (kas_desc f p m 0) Q
  | 0, m, _, _, h => h m (Nat.le_refl _) (Nat.le_refl _) id
  | f + 1, m, h1, hf, h => by
    refine ⟨okp_lt hp (by omega), okp_lt hp (by omega), ?_⟩
    by_cases c : Kp key p m < Kp key p (m - 1)
    · rw [show decide (key (p.getD m 0) < key (p.getD (m - 1) 0)) = true from decide_eq_true c]; refine pw_t ?_; rw [if_neg (by omega)]
      exact pw_desc hp d f (m + 1) (by omega) (by omega) fun r a b c1 => h r (by omega) (by omega) fun hm => c1 (desc_succ hm h1 c)
    · rw [show decide (key (p.getD m 0) < key (p.getD (m - 1) 0)) = false from decide_eq_false c]; refine pw_f ?_
      have hne := okp_ne hp d (i := m) (j := m - 1) (by omega) (by omega) (by omega)
      refine ⟨okp_lt hp (by omega), okp_lt hp (by omega), ?_⟩
      rw [show decide (key (p.getD (m - 1) 0) < key (p.getD m 0)) = true from decide_eq_true (by show Kp key p (m - 1) < Kp key p m; omega)]
      refine pw_t ?_
      exact h m (Nat.le_refl _) (by omega) id
theorem okp_rev {p : Array Nat} (hp : Okp n p) (i j : Nat) : Okp n (kas_rev p i j) := (mirror_perm _ _ _ _).trans hp
theorem getD_of {p q : Array Nat} {i j : Nat} (h : p[i]? = q[j]?) : p.getD i 0 = q.getD j 0 := by
  rw [Array.getD_eq_getD_getElem?, Array.getD_eq_getD_getElem?, h]
theorem rev_at {p : Array Nat} {m : Nat} (hm : m ≤ p.size) (k : Nat) : (kas_rev p 0 m).getD k 0 = if k < m then p.getD (m - 1 - k) 0 else p.getD k 0 := by
  have h := getElem?_mirror_all (xs := p) (i := 0) (j := m) hm k
  by_cases c : k < m
  · rw [if_pos c]
    rw [if_pos ⟨Nat.zero_le _, c⟩] at h
    refine getD_of (h.trans ?_)
    congr 1; omega
  · rw [if_neg c]
    rw [if_neg (by omega)] at h
    exact getD_of h
theorem rev_asc {p : Array Nat} {m : Nat} (hm : m ≤ p.size) (h : Desc key p m) : Asc key (kas_rev p 0 m) m := by
  intro i j hij hj
  show key ((kas_rev p 0 m).getD i 0) < key ((kas_rev p 0 m).getD j 0)
  rw [rev_at hm, rev_at hm, if_pos (by omega), if_pos hj]
  exact h _ _ (by omega) (by omega)
theorem pw_tail {p : Array Nat} (hp : Okp n p) (d : Dif n key) {Q : Nat × Array Nat → Prop} {m : Nat} (h1 : 1 ≤ m) (hm : m ≤ n) (hd : Desc key p m) (h : ∀ r p', m ≤ r → r ≤ n → Okp n p' → Asc key p' r → Q (r, p')) : PW n key (kas_tail3 m n p) Q := by
  unfold kas_tail3
  refine pw_bind _ (pw_asc (okp_rev hp _ _) d (n - m) m h1 (by omega) fun r a b c1 _ => ?_)
  exact h r _ a (by omega) (okp_rev hp _ _) (c1 (rev_asc (by rw [okp_size hp]; exact hm) hd))
theorem pw_count {p : Array Nat} (hp : Okp n p) (d : Dif n key) (hn : 2 ≤ n) {Q : Nat × Array Nat → Prop} (h : ∀ r p', 1 ≤ r → r ≤ n → Okp n p' → Asc key p' r → Q (r, p')) : PW n key (kas_count n p) Q := by
  unfold kas_count
  refine pw_bind _ (pw_asc hp d (n - 1) 1 (Nat.le_refl _) (by omega) fun r a b c1 c2 => ?_)
  have hasc : Asc key p r := c1 (fun i j x y => by omega)
  by_cases e : r = n
  · subst e
    simp only [beq_self_eq_true, if_true]
    exact h r p (by omega) (Nat.le_refl _) hp hasc
  · rw [if_neg (by simpa using e)]
    by_cases e2 : r > 1
    · rw [if_pos e2]
      refine ⟨okp_lt hp (by omega), okp_lt hp (by omega), ?_⟩
      rw [show decide (key (p.getD 0 0) < key (p.getD (r - 1) 0)) = true from decide_eq_true (hasc 0 (r - 1) (by omega) (by omega))]
      refine pw_t ?_
      exact h r p (by omega) (by omega) hp hasc
    · rw [if_neg e2]
      have er : r = 1 := by omega
      subst er
      have c3 := c2 (by omega)
      unfold kas_descPart
      refine pw_bind _ (pw_desc hp d (n - (1 + 1)) (1 + 1) (by omega) (by omega) fun r2 a2 b2 d2 => ?_)
      dsimp only
      rw [if_neg (by omega)]
      refine pw_tail hp d (by omega) (by omega) (d2 (desc_succ (fun i j x y => by omega) (Nat.le_refl _) c3)) fun r3 p' a3 b3 o3 s3 => h r3 p' (by omega) b3 o3 s3
theorem asc_le {p : Array Nat} {m i j : Nat} (h : Asc key p m) (hij : i ≤ j) (hj : j < m) : Kp key p i ≤ Kp key p j := by
  rcases Nat.lt_or_ge i j with c | c
  · exact Int.le_of_lt (h i j c hj)
  · have : i = j := by omega
    subst this; exact Int.le_refl _
theorem pw_place {p : Array Nat} (hp : Okp n p) (d : Dif n key) {k : Nat} (hk : k < n) (hs : Asc key p k) {Q : Nat → Prop} (h : ∀ l, l ≤ k → (∀ i, i < l → Kp key p i < Kp key p k) → (∀ i, l ≤ i → i < k → Kp key p k < Kp key p i) → Q l) :
    ∀ (f l r : Nat), l ≤ r → r ≤ k → r - l ≤ f → (∀ i, i < l → Kp key p i < Kp key p k) → (∀ i, r ≤ i → i < k → Kp key p k < Kp key p i) → PW n key (kas_place p k f l r) Q
  | 0, l, r, h1, h2, h3, h4, h5 => by
    have e : l = r := by omega
    subst e
    exact h l h2 h4 h5
  | f + 1, l, r, h1, h2, h3, h4, h5 => by
    unfold kas_place
    by_cases c : l ≥ r
    · rw [if_pos c]
      have e : l = r := by omega
      subst e
      exact h l h2 h4 h5
    · rw [if_neg c]
      have hmid : (l + r) / 2 < k := by omega
      refine ⟨okp_lt hp hk, okp_lt hp (by omega), ?_⟩
      by_cases c2 : Kp key p k < Kp key p ((l + r) / 2)
      · rw [show decide (key (p.getD k 0) < key (p.getD ((l + r) / 2) 0)) = true from decide_eq_true c2]; refine pw_t ?_
        exact pw_place hp d hk hs h f l ((l + r) / 2) (by omega) (by omega) (by omega) h4 fun i hi hik => by
          have := asc_le hs (i := (l + r) / 2) (j := i) hi hik
          omega
      · rw [show decide (key (p.getD k 0) < key (p.getD ((l + r) / 2) 0)) = false from decide_eq_false c2]; refine pw_f ?_
        have hne := okp_ne hp d (i := (l + r) / 2) (j := k) (by omega) hk (by omega)
        exact pw_place hp d hk hs h f ((l + r) / 2 + 1) r (by omega) h2 (by omega) (fun i hi => by
          have := asc_le hs (i := i) (j := (l + r) / 2) (by omega) hmid
          omega) h5
theorem bub_at {p : Array Nat} {k l : Nat} (hk : k < p.size) (hl : l ≤ k) (i : Nat) : (bubble p k (k - l)).getD i 0 = if i = l then p.getD k 0 else if l < i ∧ i ≤ k then p.getD (i - 1) 0 else p.getD i 0 := by
  have h := getElem?_bubble hk (k - l) (by omega) i
  rw [show k - (k - l) = l by omega] at h
  by_cases c : i = l
  · rw [if_pos c] at h ⊢; exact getD_of h
  · rw [if_neg c] at h ⊢
    by_cases c2 : l < i ∧ i ≤ k
    · rw [if_pos c2] at h ⊢; exact getD_of h
    · rw [if_neg c2] at h ⊢; exact getD_of h
theorem pw_bin (d : Dif n key) {Q : Array Nat → Prop} (h : ∀ p', Okp n p' → Asc key p' n → Q p') : ∀ (f : Nat) (p : Array Nat) (k : Nat), Okp n p → Asc key p k → k + f = n → PW n key (kas_bin f p k) Q
  | 0, p, k, hp, hs, e => by
    have e' : k = n := by omega
    subst e'
    exact h p hp hs
  | f + 1, p, k, hp, hs, e => by
    unfold kas_bin
    refine pw_bind _ (pw_place hp d (by omega) hs (fun l hl h1 h2 => ?_) k 0 k (Nat.zero_le _) (Nat.le_refl _) (by omega) (fun i hi => absurd hi (Nat.not_lt_zero _)) fun i hi hk => by omega)
    refine pw_bin d h f _ (k + 1) ((bubble_perm _ _ _).trans hp) ?_ (by omega)
    intro i j hij hj
    have hsz := okp_size hp
    show key ((bubble p k (k - l)).getD i 0) < key ((bubble p k (k - l)).getD j 0)
    rw [bub_at (by omega) hl, bub_at (by omega) hl]
    by_cases ci : i = l
    · subst ci
      rw [if_pos rfl, if_neg (by omega), if_pos (by omega)]
      exact h2 (j - 1) (by omega) (by omega)
    · rw [if_neg ci]
      by_cases ci2 : l < i
      · rw [if_pos (by omega), if_neg (by omega), if_pos (by omega)]
        exact hs (i - 1) (j - 1) (by omega) (by omega)
      · rw [if_neg (by omega)]
        by_cases cj : j = l
        · subst cj
          rw [if_pos rfl]
          exact h1 i (by omega)
        · rw [if_neg cj]
          by_cases cj2 : l < j
          · rw [if_pos (by omega)]
            by_cases cc : i = j - 1
            · omega
            · exact hs i (j - 1) (by omega) (by omega)
          · rw [if_neg (by omega)]
            exact hs i j hij (by omega)
theorem pw_sort (d : Dif n key) (hn : 2 ≤ n) {Q : Array Nat → Prop} (h : ∀ p', Okp n p' → Asc key p' n → Q p') : PW n key (kas_sort n) Q := by
  unfold kas_sort
  refine pw_bind _ (pw_count (Array.Perm.refl _) d hn fun r p' h1 h2 h3 h4 => ?_)
  dsimp only
  by_cases c : r < n
  · rw [if_pos c]
    have e : max r 1 = r := by omega
    rw [e]
    exact pw_bin d h _ p' r h3 h4 (by omega)
  · rw [if_neg c]
    have e : r = n := by omega
    subst e
    exact h p' h3 h4
end
/-! S2 -/
/-! sorting a list of pairs of ints (tuples of the ledger) -/
noncomputable abbrev tup2 (k : Int × Int) (t u : Tok) (n : Nat) : Obj := { cls := .type "tuple", data := .seq #[.int k.1 t, .int k.2 u] n }
noncomputable def TupAt (news : Ledger) (v : Value) (k : Int × Int) : Prop := ∃ (a : Addr) (t u : Tok) (n : Nat), v = .ref a ∧ (a, tup2 k t u n) ∈ news
theorem TupAt.mono {news news' : Ledger} {v : Value} {k : Int × Int} (h : TupAt news v k) (s : ∀ p ∈ news, p ∈ news') : TupAt news' v k := by
  obtain ⟨a, t, u, n, e, m⟩ := h
  exact ⟨a, t, u, n, e, s _ m⟩
inductive Tups (news : Ledger) : List Value → List (Int × Int) → Prop
  | nil : Tups news [] []
  | cons {v : Value} {k : Int × Int} {vs : List Value} {ks : List (Int × Int)} : TupAt news v k → Tups news vs ks → Tups news (v :: vs) (k :: ks)
theorem Tups.mono {news news' : Ledger} {vs : List Value} {ks : List (Int × Int)} (h : Tups news vs ks) (s : ∀ p ∈ news, p ∈ news') : Tups news' vs ks := by
  induction h with
  | nil => exact .nil
  | cons h _ ih => exact .cons (h.mono s) ih
theorem Tups.length {news : Ledger} {vs : List Value} {ks : List (Int × Int)} (h : Tups news vs ks) : vs.length = ks.length := by
  induction h with
  | nil => rfl
  | cons _ _ ih => rw [List.length_cons, List.length_cons, ih]
theorem Tups.at {news : Ledger} {vs : List Value} {ks : List (Int × Int)} (h : Tups news vs ks) : ∀ i, i < ks.length → TupAt news (vs.getD i .none) (ks.getD i (0, 0)) := by
  induction h with
  | nil => intro i hi; simp at hi
  | cons h _ ih =>
    intro i hi
    cases i with
    | zero => exact h
    | succ j => exact ih j (by simpa using hi)
theorem Tups.of_at {news : Ledger} : ∀ (l : List Nat) (f : Nat → Value) (g : Nat → Int × Int), (∀ i ∈ l, TupAt news (f i) (g i)) → Tups news (l.map f) (l.map g)
  | [], _, _, _ => .nil
  | i :: l, f, g, h => .cons (h i (.head _)) (Tups.of_at l f g fun j hj => h j (.tail _ hj))
noncomputable abbrev code (k : Int × Int) : Int := k.1 * 1000 + k.2
noncomputable def Small (k : Int × Int) : Prop := 0 ≤ k.1 ∧ k.1 < 1000 ∧ 0 ≤ k.2 ∧ k.2 < 1000
theorem code_inj {k l : Int × Int} (h1 : Small k) (h2 : Small l) (e : code k = code l) : k = l := by
  obtain ⟨a, b⟩ := k; obtain ⟨c, d⟩ := l
  simp only [Small, code] at *
  have : a = c := by omega
  have : b = d := by omega
  simp_all
section
variable {prog : Program} {w : World} {A : Around} {E : Value → Shared → Prop} {s : Shared} {h₀ : Heap} {L : Addr} {m : Str → Option Value} {news : Ledger}
theorem tup_lt {x y : Value} {k l : Int × Int} {Q : Bool → Shared → Prop} (N : News h₀ L s.heap news) (hx : TupAt news x k) (hy : TupAt news y l) (sk : Small k) (sl : Small l) (h : Q (decide (code k < code l)) s) :
    wpAny (model prog w) A (keyLt' (tuples' true) x y) Q E s := by
  obtain ⟨a, t, u, n, rfl, ma⟩ := hx
  obtain ⟨b, t', u', n', rfl, mb⟩ := hy
  obtain ⟨k1, k2⟩ := k
  obtain ⟨l1, l2⟩ := l
  simp only [Small, code] at *
  refine kat_lt (N _ ma).1 rfl (N _ mb).1 rfl ?_
  show KatLex prog w A true _ Q [(.int k1 t, .int l1 t'), (.int k2 u, .int l2 u')] 0 s
  refine kat_cons (wpAny_eqBool_int (kat_go (fun h1 => kat_yes (kat_cons (wpAny_eqBool_int (kat_go (fun h2 => kat_yes (kat_nil ?_)) fun h2 => kat_no (kat_one _ _ ?_))))) fun h1 => kat_no (oneLt_int ?_)))
  · have e1 : k1 = l1 := by simpa using h1
    have e2 : k2 = l2 := by simpa using h2
    subst e1 e2
    simpa using h
  · have e1 : k1 = l1 := by simpa using h1
    subst e1
    refine lt_int ?_
    show Q _ _
    have : (decide (k1 * 1000 + k2 < k1 * 1000 + l2)) = decide (k2 < l2) := by
      by_cases c : k2 < l2
      · rw [decide_eq_true c]; exact decide_eq_true (by omega)
      · rw [decide_eq_false c]; exact decide_eq_false (by omega)
    rw [this] at h
    exact h
  · have e1 : ¬ k1 = l1 := by simpa using h1
    have : (decide (k1 * 1000 + k2 < l1 * 1000 + l2)) = decide (k1 < l1) := by
      by_cases c : k1 < l1
      · rw [decide_eq_true c]; exact decide_eq_true (by omega)
      · rw [decide_eq_false c]; exact decide_eq_false (by omega)
    rw [this] at h
    exact h
theorem tups_kat {h : Heap} {vs : List Value} {ks : List (Int × Int)} (N : News h₀ L h news) (H : Tups news vs ks) : ∃ fs, KatTups h vs fs ∧ fs.length = ks.length ∧ ∀ v ∈ fs, ∃ i t, v = Value.int i t := by
  induction H with
  | nil => exact ⟨[], .nil, rfl, fun _ h => nomatch h⟩
  | cons hv _ ih =>
    obtain ⟨fs, a, b, c⟩ := ih
    obtain ⟨ad, t, u, n, rfl, ma⟩ := hv
    refine ⟨_ :: fs, KatTups.cons (N _ ma).1 rfl rfl rfl a, by simp [b], fun v hv => ?_⟩
    rcases List.mem_cons.mp hv with rfl | hv
    · exact ⟨_, _, rfl⟩
    · exact c v hv
theorem short_sort {D : Addr} {vs : List Value} {n : Nat} {Q : Value → Shared → Prop} (F : Fr h₀ L s.heap m) (N : News h₀ L s.heap ((D, listOf vs.toArray n) :: news)) (hD : ∀ p ∈ news, p.1 ≠ D) (h2 : vs.length < 2)
    (h : ∀ h' c, Fr h₀ L h' m → News h₀ L h' ((D, listOf vs.toArray c) :: news) → Q .none { s with heap := h' }) : wpAny (model prog w) A (call (.builtin "list.sort") [.ref D]) Q E s := by
  have nz := N _ (.head _)
  have ho : s.heap.get? D = some (seqObj "list" vs.toArray n) := nz.1
  refine wpAny_call_entry slot_list_sort ⟨_, nz.1, rfl⟩ entry_list_sort ?_ (args_list_sort _)
  rw [list_sort_plain]
  have s1 := Heap.SameBut.update s.heap D (Obj.mapSeq fun _ => (#[] : Array Value))
  obtain ⟨e1, ho1⟩ : ∃ e1, (s.heap.update D (Obj.mapSeq fun _ => (#[] : Array Value))).get? D = some (seqObj "list" #[] e1) := ⟨_, get?_update_seq ho fun _ => #[]⟩
  have hsz : vs.toArray.size < 2 := by rw [List.size_toArray]; exact h2
  refine wpAny_bind (listItems_at ho rfl ?_)
  refine wpAny_bind (listUpdate_at ho rfl ?_ (by rw [List.size_toArray, sizeLine_eq]; omega) (Nat.zero_le _))
  refine wpAny_bind (seqEpoch_at ho1 rfl ?_)
  refine wpAny_bind (wpAny_newTuple ?_ (by show vs.length ≤ _; rw [sizeLine_eq]; omega))
  refine wpAny_bind (wpAny_newList ?_ (Nat.zero_le _))
  refine wpAny_holding ?_
  have F3 : Fr h₀ L (((s.heap.update D (Obj.mapSeq fun _ => (#[] : Array Value))).push (seqObj "tuple" vs.toArray 0)).push (seqObj "list" #[] 0)) m := ((kas_fr F s1 nz.2.1 nz.2.2).push _).push _
  have N2 : News h₀ L (((s.heap.update D (Obj.mapSeq fun _ => (#[] : Array Value))).push (seqObj "tuple" vs.toArray 0)).push (seqObj "list" #[] 0)) news :=
    (kas_news (fun p hp => N p (.tail _ hp)) s1 hD).grown fun b x e => Heap.get?_push_of_some _ (Heap.get?_push_of_some _ e)
  have ho6 : (((s.heap.update D (Obj.mapSeq fun _ => (#[] : Array Value))).push (seqObj "tuple" vs.toArray 0)).push (seqObj "list" #[] 0)).get? D = some (seqObj "list" #[] e1) := Heap.get?_push_of_some _ (Heap.get?_push_of_some _ ho1)
  show wpAny (model prog w) _ _ _ _ { s with heap := ((s.heap.update D (Obj.mapSeq fun _ => (#[] : Array Value))).push (seqObj "tuple" vs.toArray 0)).push (seqObj "list" #[] 0) }
  generalize ((s.heap.update D (Obj.mapSeq fun _ => (#[] : Array Value))).push (seqObj "tuple" vs.toArray 0)).push (seqObj "list" #[] 0) = H at F3 N2 ho6 ⊢
  dsimp only
  rw [if_pos hsz, if_pos hsz]
  refine wpAny_bind (wpAny_pure ?_)
  rw [StateT.run_pure]
  refine wpAny_bind (wpAny_pure ?_)
  dsimp only
  refine wpAny_bind (seqEpoch_at ho6 rfl ?_)
  have hout : (arrOf (SortSt.mk' general' (vs.toArray.zip vs.toArray) #[] 7 none)).map (·.2) = vs.toArray := by
    show (vs.toArray.zip vs.toArray).map (·.2) = vs.toArray
    apply Array.toList_inj.mp
    simp [List.map_snd_zip]
  rw [hout]
  have s2 := Heap.SameBut.update H D (Obj.mapSeq fun _ => vs.toArray)
  obtain ⟨c2, hc2⟩ : ∃ c2, (H.update D (Obj.mapSeq fun _ => vs.toArray)).get? D = some (seqObj "list" vs.toArray c2) := ⟨_, get?_update_seq ho6 fun _ => vs.toArray⟩
  refine wpAny_bind (listUpdate_at ho6 rfl ?_ (Nat.zero_le _) (by rw [List.size_toArray, sizeLine_eq]; omega))
  simp only [bne_self_eq_false, Bool.false_eq_true, if_false]
  refine wpAny_pure ⟨_, rfl, h _ c2 (kas_fr F3 s2 nz.2.1 nz.2.2) fun p hp => ?_⟩
  rcases List.mem_cons.mp hp with rfl | hp
  · exact ⟨hc2, nz.2⟩
  · exact kas_news N2 s2 hD p hp
theorem sort_tups {D : Addr} {vs : List Value} {ks : List (Int × Int)} {n : Nat} {Q : Value → Shared → Prop} (F : Fr h₀ L s.heap m) (N : News h₀ L s.heap ((D, listOf vs.toArray n) :: news)) (hD : ∀ p ∈ news, p.1 ≠ D)
    {sym : Ledger} (sub : ∀ p ∈ sym, p ∈ news) (ht : Tups sym vs ks) (hb : ∀ k ∈ ks, Small k) (hnd : ks.Nodup) (h64 : vs.length < 64)
    (h : ∀ h' c vs' ks', Fr h₀ L h' m → News h₀ L h' ((D, listOf vs'.toArray c) :: news) → Tups sym vs' ks' → ks'.Perm ks → ks'.Pairwise (fun a b => code a < code b) → Q .none { s with heap := h' }) :
    wpAny (model prog w) A (call (.builtin "list.sort") [.ref D]) Q E s := by
  have hl := ht.length
  by_cases h2 : 2 ≤ vs.length
  · refine kat_lsort (vs := vs) F N (UpdF.head hD) (by simp) h2 h64 fun e1 h' F' N' => ?_
    obtain ⟨fs, t1, t2, t3⟩ := tups_kat (fun p hp => N' p (.tail _ hp)) (ht.mono sub)
    refine kat_kind (T := .type "int") (s := { s with heap := h' }) t1 (by omega) (fun v hv => ?_) (by decide) ?_
    · obtain ⟨i, t, rfl⟩ := t3 v hv
      exact Looks.of_pure rfl
    rw [show (Value.type "int" != Value.type "tuple") = true by decide]
    have small : ∀ i, i < ks.length → Small (ks.getD i (0, 0)) := fun i hi => hb _ (by
      have : ks.getD i (0, 0) = ks[i] := by simp [hi]
      rw [this]; exact List.getElem_mem hi)
    refine pw_wp (n := vs.length) (key := fun i => code (ks.getD i (0, 0))) (fun i j C hi hj hC => ?_) _ (pw_sort ?_ h2 fun p hp hs => ?_)
    · exact tup_lt (fun p hp => N' p (.tail _ hp)) ((ht.at i (by omega)).mono sub) ((ht.at j (by omega)).mono sub) (small i (by omega)) (small j (by omega)) hC
    · intro i j hi hj e
      have e2 := code_inj (small i (by omega)) (small j (by omega)) e
      have a1 : ks.getD i (0, 0) = ks[i]'(by omega) := by simp [show i < ks.length by omega]
      have a2 : ks.getD j (0, 0) = ks[j]'(by omega) := by simp [show j < ks.length by omega]
      rw [a1, a2] at e2
      exact (List.getElem_inj hnd).mp e2
    · refine KasFin.intro F' N' (UpdF.head hD) fun h3 c F3 N3 => ?_
      have hpl : p.toList.Perm (List.range vs.length) := Array.perm_iff_toList_perm.mp hp
      refine h h3 c _ (p.toList.map fun i => ks.getD i (0, 0)) F3 N3 (Tups.of_at _ _ _ fun i hi => ht.at i ?_) ?_ ?_
      · have := hpl.mem_iff.mp hi
        rw [List.mem_range] at this
        omega
      · refine (hpl.map _).trans ?_
        have : (List.range vs.length).map (fun i => ks.getD i (0, 0)) = ks := by
          apply List.ext_getElem
          · simp [hl]
          · intro i a b
            simp [b]
        rw [this]
      · rw [List.pairwise_iff_getElem]
        intro i j hi hj hij
        simp only [List.getElem_map]
        have hsz := okp_size hp
        have x := hs i j hij (by simpa [hsz] using hj)
        have g1 : p.getD i 0 = p.toList[i]'(by simpa using hi) := by
          have : i < p.size := by simpa using hi
          simp [Array.getD, this]
        have g2 : p.getD j 0 = p.toList[j]'(by simpa using hj) := by
          have : j < p.size := by simpa using hj
          simp [Array.getD, this]
        simp only [Kp, g1, g2] at x
        exact x
  · refine short_sort F N hD (by omega) fun h' c F' N' => h h' c vs ks F' N' ht (.refl _) ?_
    match ks, hl, h2 with
    | [], _, _ => exact .nil
    | [k], _, _ => exact List.pairwise_singleton ..
    | _ :: _ :: _, hl, h2 => simp only [List.length_cons] at hl; omega
end
/-! D1 -/
/-! a dict whose keys may be objects: its keys and its values, one after the other -/
noncomputable def RawD (h : Heap) (d : Addr) (es : Array DictEntry) (ep : Nat) : Prop := ∃ o, h.get? d = some o ∧ o.cls = .type "dict" ∧ o.data = .dict es ep
theorem RawD.at {h h' : Heap} {d : Addr} {es : Array DictEntry} {ep : Nat} (x : RawD h d es ep) (e : ∀ o, h.get? d = some o → h'.get? d = some o) : RawD h' d es ep := let ⟨o, ho, r⟩ := x; ⟨o, e _ ho, r⟩
theorem RawD.lt {h : Heap} {d : Addr} {es : Array DictEntry} {ep : Nat} (x : RawD h d es ep) : d < h.objs.size := let ⟨_, ho, _⟩ := x; Heap.lt_size ho
section
variable {prog : Program} {w : World} {A : Around} {E : Value → Shared → Prop} {s : Shared} {d it v : Addr} {es : Array DictEntry} {ep i : Nat}
theorem RawD.typeIs (x : RawD s.heap d es ep) : s.TypeIs (.ref d) "dict" := let ⟨o, ho, hc, _⟩ := x; ⟨o, ho, hc⟩
theorem raw_iter {Q : Value → Shared → Prop} (lo : (d == sysModules) = false) (hm : RawD s.heap d es ep)
    (hQ : Q (.ref s.heap.objs.size) { s with heap := s.heap.push { cls := .type "dict_keyiterator", data := .fields #[.ref d, .int 0 0, .int es.size 0, .int ep 0] } }) :
    wpAny (model prog w) A (pyIter (.ref d)) Q E s := by
  have hT := hm.typeIs
  obtain ⟨o, ho, hc, hd⟩ := hm
  refine wpAny_pyIter_slot hT F.slot_dict_iter (wpAny_call_entry F.slot_dict_iter hT F.entry_dict_iter ?_ (F.args_dict_iter_1 _))
  unfold Builtin.«dict.__iter__» Builtin.Dict.dictSlotNone
  refine wpAny_bind (wpAny_bind (wpAny_notOrdered_dict hT ?_))
  show wpAny _ _ (pure (Value.ref d)) _ _ s
  refine wpAny_pure ?_
  show wpAny _ _ (Builtin.Dict.showsAll d >>= _) _ _ s
  unfold Builtin.Dict.showsAll
  rw [if_neg (by rw [lo]; exact Bool.false_ne_true)]
  refine wpAny_bind (wpAny_pure (wpAny_bind (wpAny_dictEntries ho hd (wpAny_bind (wpAny_dictEpoch ho hd ?_)))))
  exact wpAny_bind (wpAny_newObj_type (wpAny_pure ⟨_, rfl, "dict_keyiterator", _, ⟨_, Heap.get?_push_size _ rfl, rfl⟩, F.slot_dict_keyiterator_next.lookup, hQ⟩))
theorem raw_next_key {e : DictEntry} {Q : Option Value → Shared → Prop} (hit : s.heap.IsKeyIter it d i es.size ep) (hm : RawD s.heap d es ep) (hx : es[i]? = some e)
    (hQ : ∀ h', h'.IsKeyIter it d (i + 1) es.size ep → Heap.SameBut it s.heap h' → Q (some e.key) { s with heap := h' }) : wpAny (model prog w) A (pyNext (.ref it)) Q E s := by
  have hT := hit.typeIs
  obtain ⟨o, ho, hc, hd⟩ := id hit
  obtain ⟨od, hod, hcd, hdd⟩ := id hm
  unfold pyNext
  refine wpAny_bind (wpAny_attempt (wpAny_callSpecial?_slot (name := Str.ofString "__next__") hT F.slot_dict_keyiterator_next (wpAny_call_entry F.slot_dict_keyiterator_next hT F.entry_dict_keyiterator_next ?_ (F.args_dict_keyiterator_next_1 _))))
  refine wpAny_bind (wpAny_pure (wpAny_bind (wpAny_bind ?_)))
  first | refine wpAny_bind (wpAny_typeNameOfWhole_keyiter hT (wpAny_pure ?_)) | refine wpAny_bind (wpAny_typeNameOf_keyiter hT (wpAny_pure ?_))
  refine wpAny_bind (wpAny_fieldsOf ho hd ?_)
  have own : Builtin.Dict_items.ownsTuple "dict_keyiterator" = false := by decide
  simp only [own, Bool.false_eq_true, if_false]
  show wpAny _ _ (if (Value.ref d == Value.none) = true then _ else _) _ _ s
  rw [if_neg (show ¬ ((Value.ref d == Value.none) = true) from Bool.false_ne_true)]
  refine wpAny_bind (wpAny_pure (wpAny_bind (wpAny_dictEntries hod hdd ?_)))
  rw [if_neg (by simp)]
  refine wpAny_bind (wpAny_pure (wpAny_bind (wpAny_dictEpoch hod hdd ?_)))
  rw [if_neg (by simp)]
  refine wpAny_pure ?_
  simp only [show ¬ ((i : Int) < 0) from by omega, if_false, Int.toNat_natCast, hx]
  refine wpAny_bind ?_
  first | refine wpAny_bind (wpAny_typeNameOfWhole_keyiter hT (wpAny_pure ?_)) | refine wpAny_bind (wpAny_typeNameOf_keyiter hT (wpAny_pure ?_))
  refine wpAny_bind (wpAny_isOneOf_keyiter hT ?_)
  show wpAny _ _ (setField (.ref it) 1 (rawInt ((i : Int) + 1)) >>= _) _ _ s
  refine wpAny_bind (wpAny_setField ho hd (by simp) ?_)
  have hit' : (s.heap.update it (Obj.mapFields (·.setIfInBounds 1 (rawInt ((i : Int) + 1))))).IsKeyIter it d (i + 1) es.size ep :=
    ⟨_, Heap.get?_update_self _ ho (Obj.isFreed_of_fields (Obj.data_mapFields hd _)), (Obj.cls_mapFields ..).trans hc, by rw [Obj.data_mapFields hd]; simp [rawInt]⟩
  refine wpAny_bind (wpAny_holding ?_)
  refine wpAny_bind (wpAny_isOneOf_keyiter (s := { s with heap := s.heap.update it (Obj.mapFields (·.setIfInBounds 1 (rawInt ((i : Int) + 1)))) }) hit'.typeIs ?_)
  show wpAny _ _ (pure e.key) _ _ _
  exact wpAny_pure (wpAny_pure ⟨_, rfl, wpAny_pure (hQ _ hit' (Heap.SameBut.update ..))⟩)
theorem raw_end_key {Q : Option Value → Shared → Prop} (hh : A.handled = none) (hit : s.heap.IsKeyIter it d es.size es.size ep) (hm : RawD s.heap d es ep)
    (hQ : ∀ h', Heap.ExtBut it s.heap h' → Q none { s with heap := h' }) : wpAny (model prog w) A (pyNext (.ref it)) Q E s := by
  have hT := hit.typeIs
  obtain ⟨o, ho, hc, hd⟩ := id hit
  obtain ⟨od, hod, hcd, hdd⟩ := id hm
  unfold pyNext
  refine wpAny_bind (wpAny_attempt (wpAny_callSpecial?_slot (name := Str.ofString "__next__") hT F.slot_dict_keyiterator_next (wpAny_call_entry F.slot_dict_keyiterator_next hT F.entry_dict_keyiterator_next ?_ (F.args_dict_keyiterator_next_1 _))))
  refine wpAny_bind (wpAny_pure (wpAny_bind (wpAny_bind ?_)))
  first | refine wpAny_bind (wpAny_typeNameOfWhole_keyiter hT (wpAny_pure ?_)) | refine wpAny_bind (wpAny_typeNameOf_keyiter hT (wpAny_pure ?_))
  refine wpAny_bind (wpAny_fieldsOf ho hd ?_)
  have own : Builtin.Dict_items.ownsTuple "dict_keyiterator" = false := by decide
  simp only [own, Bool.false_eq_true, if_false]
  show wpAny _ _ (if (Value.ref d == Value.none) = true then _ else _) _ _ s
  rw [if_neg (show ¬ ((Value.ref d == Value.none) = true) from Bool.false_ne_true)]
  refine wpAny_bind (wpAny_pure (wpAny_bind (wpAny_dictEntries hod hdd ?_)))
  rw [if_neg (by simp)]
  refine wpAny_bind (wpAny_pure (wpAny_bind (wpAny_dictEpoch hod hdd ?_)))
  rw [if_neg (by simp)]
  refine wpAny_pure ?_
  simp only [show ¬ ((es.size : Int) < 0) from by omega, if_false, Int.toNat_natCast, Array.getElem?_eq_none (Nat.le_refl _)]
  refine wpAny_bind ?_
  first | refine wpAny_bind (wpAny_typeNameOfWhole_keyiter hT (wpAny_pure ?_)) | refine wpAny_bind (wpAny_typeNameOf_keyiter hT (wpAny_pure ?_))
  show wpAny _ _ (setField (.ref it) 0 .none >>= _) _ _ s
  refine wpAny_bind (wpAny_setField ho hd (by simp) ?_)
  show wpAny _ _ (newExc (.type "StopIteration") [] >>= _) _ _ _
  refine wpAny_bind ?_
  simp only [newExc, newTuple]
  refine wpAny_bind (wpAny_newObj_type ?_ (by size_fits))
  refine wpAny_bind (m := firstArgMember _ _) (wpAny_of_eq (a := Value.none) (by first | rfl | (simp only [firstArgMember]; rfl)) ?_)
  refine wpAny_newObj_type ?_ (by size_fits)
  simp only [raiseNew]
  refine wpAny_bind (wpAny_handled ?_)
  rw [show A.in1.handled = none from hh]
  refine wpAny_bind (wpAny_pure (wpAny_throw ?_))
  refine wpAny_bind (wpAny_isInstance (T := "StopIteration") (b := true) ⟨_, Heap.get?_push_size _ rfl, rfl⟩ isSubtype_stop ?_)
  exact wpAny_pure (hQ _ (((Heap.SameBut.update ..).extBut.push _).push _))
theorem raw_next_val {e : DictEntry} {Q : Option Value → Shared → Prop} (hit : s.heap.IsValIter it d i es.size ep) (hm : RawD s.heap d es ep) (hx : es[i]? = some e)
    (hQ : ∀ h', h'.IsValIter it d (i + 1) es.size ep → Heap.SameBut it s.heap h' → Q (some e.val) { s with heap := h' }) : wpAny (model prog w) A (pyNext (.ref it)) Q E s := by
  have hT := hit.typeIs
  obtain ⟨o, ho, hc, hd⟩ := id hit
  obtain ⟨od, hod, hcd, hdd⟩ := id hm
  unfold pyNext
  refine wpAny_bind (wpAny_attempt (wpAny_callSpecial?_slot (name := Str.ofString "__next__") hT F.slot_dict_valueiterator_next (wpAny_call_entry F.slot_dict_valueiterator_next hT F.entry_dict_valueiterator_next ?_ (F.args_dict_valueiterator_next_1 _))))
  refine wpAny_bind (wpAny_pure (wpAny_bind (wpAny_bind ?_)))
  first | refine wpAny_bind (wpAny_typeNameOfWhole_valiter hT (wpAny_pure ?_)) | refine wpAny_bind (wpAny_typeNameOf_valiter hT (wpAny_pure ?_))
  refine wpAny_bind (wpAny_fieldsOf ho hd ?_)
  have own : Builtin.Dict_items.ownsTuple "dict_valueiterator" = false := by decide
  simp only [own, Bool.false_eq_true, if_false]
  show wpAny _ _ (if (Value.ref d == Value.none) = true then _ else _) _ _ s
  rw [if_neg (show ¬ ((Value.ref d == Value.none) = true) from Bool.false_ne_true)]
  refine wpAny_bind (wpAny_pure (wpAny_bind (wpAny_dictEntries hod hdd ?_)))
  rw [if_neg (by simp)]
  refine wpAny_bind (wpAny_pure (wpAny_bind (wpAny_dictEpoch hod hdd ?_)))
  rw [if_neg (by simp)]
  refine wpAny_pure ?_
  simp only [show ¬ ((i : Int) < 0) from by omega, if_false, Int.toNat_natCast, hx]
  refine wpAny_bind ?_
  first | refine wpAny_bind (wpAny_typeNameOfWhole_valiter hT (wpAny_pure ?_)) | refine wpAny_bind (wpAny_typeNameOf_valiter hT (wpAny_pure ?_))
  refine wpAny_bind (wpAny_isOneOf_valiter hT ?_)
  show wpAny _ _ (setField (.ref it) 1 (rawInt ((i : Int) + 1)) >>= _) _ _ s
  refine wpAny_bind (wpAny_setField ho hd (by simp) ?_)
  have hit' : (s.heap.update it (Obj.mapFields (·.setIfInBounds 1 (rawInt ((i : Int) + 1))))).IsValIter it d (i + 1) es.size ep :=
    ⟨_, Heap.get?_update_self _ ho (Obj.isFreed_of_fields (Obj.data_mapFields hd _)), (Obj.cls_mapFields ..).trans hc, by rw [Obj.data_mapFields hd]; simp [rawInt]⟩
  refine wpAny_bind (wpAny_holding ?_)
  refine wpAny_bind (wpAny_isOneOf_valiter (s := { s with heap := s.heap.update it (Obj.mapFields (·.setIfInBounds 1 (rawInt ((i : Int) + 1)))) }) hit'.typeIs ?_)
  refine wpAny_bind (wpAny_isOneOf_valiter (s := { s with heap := s.heap.update it (Obj.mapFields (·.setIfInBounds 1 (rawInt ((i : Int) + 1)))) }) hit'.typeIs ?_)
  show wpAny _ _ (pure e.val) _ _ _
  exact wpAny_pure (wpAny_pure ⟨_, rfl, wpAny_pure (hQ _ hit' (Heap.SameBut.update ..))⟩)
theorem raw_end_val {Q : Option Value → Shared → Prop} (hh : A.handled = none) (hit : s.heap.IsValIter it d es.size es.size ep) (hm : RawD s.heap d es ep)
    (hQ : ∀ h', Heap.ExtBut it s.heap h' → Q none { s with heap := h' }) : wpAny (model prog w) A (pyNext (.ref it)) Q E s := by
  have hT := hit.typeIs
  obtain ⟨o, ho, hc, hd⟩ := id hit
  obtain ⟨od, hod, hcd, hdd⟩ := id hm
  unfold pyNext
  refine wpAny_bind (wpAny_attempt (wpAny_callSpecial?_slot (name := Str.ofString "__next__") hT F.slot_dict_valueiterator_next (wpAny_call_entry F.slot_dict_valueiterator_next hT F.entry_dict_valueiterator_next ?_ (F.args_dict_valueiterator_next_1 _))))
  refine wpAny_bind (wpAny_pure (wpAny_bind (wpAny_bind ?_)))
  first | refine wpAny_bind (wpAny_typeNameOfWhole_valiter hT (wpAny_pure ?_)) | refine wpAny_bind (wpAny_typeNameOf_valiter hT (wpAny_pure ?_))
  refine wpAny_bind (wpAny_fieldsOf ho hd ?_)
  have own : Builtin.Dict_items.ownsTuple "dict_valueiterator" = false := by decide
  simp only [own, Bool.false_eq_true, if_false]
  show wpAny _ _ (if (Value.ref d == Value.none) = true then _ else _) _ _ s
  rw [if_neg (show ¬ ((Value.ref d == Value.none) = true) from Bool.false_ne_true)]
  refine wpAny_bind (wpAny_pure (wpAny_bind (wpAny_dictEntries hod hdd ?_)))
  rw [if_neg (by simp)]
  refine wpAny_bind (wpAny_pure (wpAny_bind (wpAny_dictEpoch hod hdd ?_)))
  rw [if_neg (by simp)]
  refine wpAny_pure ?_
  simp only [show ¬ ((es.size : Int) < 0) from by omega, if_false, Int.toNat_natCast, Array.getElem?_eq_none (Nat.le_refl _)]
  refine wpAny_bind ?_
  first | refine wpAny_bind (wpAny_typeNameOfWhole_valiter hT (wpAny_pure ?_)) | refine wpAny_bind (wpAny_typeNameOf_valiter hT (wpAny_pure ?_))
  show wpAny _ _ (setField (.ref it) 0 .none >>= _) _ _ s
  refine wpAny_bind (wpAny_setField ho hd (by simp) ?_)
  show wpAny _ _ (newExc (.type "StopIteration") [] >>= _) _ _ _
  refine wpAny_bind ?_
  simp only [newExc, newTuple]
  refine wpAny_bind (wpAny_newObj_type ?_ (by size_fits))
  refine wpAny_bind (m := firstArgMember _ _) (wpAny_of_eq (a := Value.none) (by first | rfl | (simp only [firstArgMember]; rfl)) ?_)
  refine wpAny_newObj_type ?_ (by size_fits)
  simp only [raiseNew]
  refine wpAny_bind (wpAny_handled ?_)
  rw [show A.in1.handled = none from hh]
  refine wpAny_bind (wpAny_pure (wpAny_throw ?_))
  refine wpAny_bind (wpAny_isInstance (T := "StopIteration") (b := true) ⟨_, Heap.get?_push_size _ rfl, rfl⟩ isSubtype_stop ?_)
  exact wpAny_pure (hQ _ (((Heap.SameBut.update ..).extBut.push _).push _))
theorem raw_iter_values {Q : Value → Shared → Prop} (hv : s.heap.IsValuesView v d) (hm : RawD s.heap d es ep)
    (hQ : Q (.ref s.heap.objs.size) { s with heap := s.heap.push { cls := .type "dict_valueiterator", data := .fields #[.ref d, .int 0 0, .int es.size 0, .int ep 0] } }) :
    wpAny (model prog w) A (pyIter (.ref v)) Q E s := by
  have hT := hv.typeIs
  obtain ⟨ov, hov, hcv, hdv⟩ := id hv
  obtain ⟨o, ho, hc, hd⟩ := hm
  refine wpAny_pyIter_slot hT F.slot_dict_values_iter (wpAny_call_entry F.slot_dict_values_iter hT F.entry_dict_values_iter ?_ (F.args_dict_values_iter_1 _))
  unfold Builtin.«dict_values.__iter__» Builtin.Dict_items.dictOf Builtin.Dict_items.newIterator
  refine wpAny_bind (wpAny_pure (wpAny_bind (wpAny_bind (wpAny_field hov hdv (x := .ref d) rfl (wpAny_pure ?_)))))
  refine wpAny_bind (wpAny_bind (wpAny_dictEntries ho hd (wpAny_bind (wpAny_dictEpoch ho hd ?_))))
  have own : Builtin.Dict_items.ownsTuple "dict_valueiterator" = false := by decide
  simp only [own, Bool.false_eq_true, if_false]
  exact wpAny_newObj_type (wpAny_pure ⟨_, rfl, "dict_valueiterator", _, ⟨_, Heap.get?_push_size _ rfl, rfl⟩, F.slot_dict_valueiterator_next.lookup, hQ⟩)
theorem raw_keys (hh : A.handled = none) (I : Addr) (hne : d ≠ I) : Walks prog w A I [I, d] [I] es.size (fun i v => ∃ e, es[i]? = some e ∧ v = e.key) (fun i h => h.IsKeyIter I d i es.size ep ∧ RawD h d es ep) where
  sub := fun b hb => by simp at hb; simp [hb]
  frame := fun _ _ _ st hk => ⟨st.1.at fun o e => hk I (by simp) o e, st.2.at fun o e => hk d (by simp) o e⟩
  item := fun i s Q E hi st hQ => by
    have hx : es[i]? = some es[i] := by simp [hi]
    exact raw_next_key st.1 st.2 hx fun h' hit' hs' => hQ _ h' s.toks ⟨_, hx, rfl⟩ ⟨hit', st.2.at fun o e => hs'.extBut d o hne e⟩ fun b o hb e => hs'.extBut b o (fun h => hb (by simp [h])) e
  done := fun s Q E st hQ => raw_end_key hh st.1 st.2 fun h' he' => hQ h' s.toks fun b o hb e => he' b o (fun h => hb (by simp [h])) e
  self := fun _ _ _ _ st hQ => wpAny_pyIter_keyiter st.1 hQ
theorem raw_values (hh : A.handled = none) (I : Addr) (hne : d ≠ I) : Walks prog w A I [I, d] [I] es.size (fun i v => ∃ e, es[i]? = some e ∧ v = e.val) (fun i h => h.IsValIter I d i es.size ep ∧ RawD h d es ep) where
  sub := fun b hb => by simp at hb; simp [hb]
  frame := fun _ _ _ st hk => ⟨st.1.at fun o e => hk I (by simp) o e, st.2.at fun o e => hk d (by simp) o e⟩
  item := fun i s Q E hi st hQ => by
    have hx : es[i]? = some es[i] := by simp [hi]
    exact raw_next_val st.1 st.2 hx fun h' hit' hs' => hQ _ h' s.toks ⟨_, hx, rfl⟩ ⟨hit', st.2.at fun o e => hs'.extBut d o hne e⟩ fun b o hb e => hs'.extBut b o (fun h => hb (by simp [h])) e
  done := fun s Q E st hQ => raw_end_val hh st.1 st.2 fun h' he' => hQ h' s.toks fun b o hb e => he' b o (fun h => hb (by simp [h])) e
  self := fun _ _ _ _ st hQ => wpAny_pyIter_valiter st.1 hQ
end
section
variable {prog : Program} {w : World} {d : Addr} {es : Array DictEntry} {ep : Nat}
theorem raw_src (lo : (d == sysModules) = false) : KdlSrc prog w "dict" d d es.size (fun i v => ∃ e, es[i]? = some e ∧ v = e.key) (fun h => RawD h d es ep) where
  type := fun _ hm => hm.typeIs
  there := fun _ hm => ⟨hm.lt, hm.lt⟩
  keep := fun _ _ hm hk => hm.at fun o e => hk d (.inl rfl) o e
  notList := by decide
  notTuple := by decide
  hint := fun _ _ _ _ hm hq => kdl_hint_dict hm.typeIs hq
  iter := fun _ _ hh hm => ⟨_, _, (fun _ _ hq => raw_iter lo hm hq), raw_keys hh _ (Nat.ne_of_lt hm.lt), ⟨⟨_, Heap.get?_push_size _ rfl, rfl, rfl⟩, hm.at fun _ e => Heap.get?_push_of_some _ e⟩⟩
end
/-! D2 -/
/-! dicts from ints to ints -/
noncomputable def mapD (M : List (Int × Int)) : List (PyData × PyData) := M.map fun p => (PyData.int p.1, PyData.int p.2)
noncomputable def IObj (prog : Program) (w : World) (o : Obj) (M : List (Int × Int)) : Prop := ∃ kvs, o.IsDictOf (intKind prog w) kvs ∧ FlatPairs PyData.int kvs (mapD M)
noncomputable def IDict (prog : Program) (w : World) (news : Ledger) (d : Addr) (M : List (Int × Int)) : Prop := ∃ o, (d, o) ∈ news ∧ IObj prog w o M ∧ (d == sysModules) = false
theorem IDict.mono {prog : Program} {w : World} {news news' : Ledger} {d : Addr} {M : List (Int × Int)} (h : IDict prog w news d M) (s : ∀ p ∈ news, p ∈ news') : IDict prog w news' d M := let ⟨o, m, r⟩ := h; ⟨o, s _ m, r⟩
noncomputable def get : List (Int × Int) → Int → Option Int
  | [], _ => none
  | p :: r, k => if p.1 = k then some p.2 else get r k
noncomputable def put (M : List (Int × Int)) (k v : Int) : List (Int × Int) := if (get M k).isSome then M.map (fun p => if p.1 = k then (p.1, v) else p) else M ++ [(k, v)]
theorem lookup_mapD (k : Int) : ∀ M : List (Int × Int), Spec.lookup (PyData.int k) (mapD M) = (get M k).map PyData.int
  | [] => rfl
  | p :: r => by
    show (if Spec.same (PyData.int p.1) (PyData.int k) = true then some (PyData.int p.2) else Spec.lookup (PyData.int k) (mapD r)) = _
    rw [lookup_mapD k r, same_int]
    rw [show get (p :: r) k = if p.1 = k then some p.2 else get r k from rfl]
    by_cases h : p.1 = k
    · simp [h]
    · simp [h]
theorem any_mapD (k : Int) : ∀ M : List (Int × Int), (mapD M).any (fun p => Spec.same p.1 (PyData.int k)) = (get M k).isSome
  | [] => rfl
  | p :: r => by
    show (Spec.same (PyData.int p.1) (PyData.int k) || (mapD r).any fun p => Spec.same p.1 (PyData.int k)) = _
    rw [any_mapD k r, same_int]
    rw [show get (p :: r) k = if p.1 = k then some p.2 else get r k from rfl]
    by_cases h : p.1 = k
    · simp [h]
    · simp [h]
theorem putD_mapD (k v : Int) (M : List (Int × Int)) : putD (PyData.int k) (PyData.int v) (mapD M) = mapD (put M k v) := by
  unfold putD put
  rw [any_mapD]
  by_cases h : (get M k).isSome = true
  · rw [if_pos h, if_pos h]
    unfold mapD
    rw [List.map_map, List.map_map]
    refine List.map_congr_left fun p _ => ?_
    simp only [Function.comp, same_int]
    by_cases e : p.1 = k <;> simp [e]
  · rw [if_neg h, if_neg h]
    unfold mapD
    rw [List.map_append]
    rfl
theorem len_mapD (M : List (Int × Int)) : (mapD M).length = M.length := by unfold mapD; simp
noncomputable def srt (l : List Int) : List Int := l.mergeSort (fun a b => decide (a ≤ b))
theorem srt_perm (l : List Int) : (srt l).Perm l := List.mergeSort_perm _ _
theorem srt_sorted (l : List Int) : (srt l).Pairwise (· ≤ ·) := by
  have h := List.pairwise_mergeSort (le := fun (a b : Int) => decide (a ≤ b)) (fun a b c h1 h2 => by simp at *; omega) (fun a b => by simp; omega) l
  exact h.imp fun h => by simpa using h
theorem srt_eq {l m : List Int} (p : m.Perm l) (s : m.Pairwise (· ≤ ·)) : m = srt l := lks_uniq (p.trans (srt_perm l).symm) s (srt_sorted l)
/-- the facts that K's lines read -/
theorem flat_of {M : List (Int × Int)} {kvs : List (Int × Value)} (hf : FlatPairs PyData.int kvs (mapD M)) : kvs.length = M.length ∧ ∀ (i : Nat) (k : Int) (v : Value), kvs[i]? = some (k, v) → ∃ (x : Int) (t : Tok), M[i]? = some (k, x) ∧ v = Value.int x t := by
  refine ⟨by have := hf.length; rw [len_mapD] at this; omega, fun i k v hx => ?_⟩
  obtain ⟨dv, hd, hfl⟩ := hf.at hx
  unfold mapD at hd
  rw [List.getElem?_map] at hd
  cases hM : M[i]? with
  | none => rw [hM] at hd; simp at hd
  | some p =>
    rw [hM] at hd
    simp only [Option.map_some, Option.some.injEq, Prod.mk.injEq] at hd
    obtain ⟨h1, h2⟩ := hd
    injection h1 with h1
    subst h2
    obtain ⟨t, rfl⟩ := Flat.int_inv hfl
    exact ⟨p.2, t, by rw [← h1], rfl⟩
section
variable {prog : Program} {w : World} {A : Around} {E : Value → Shared → Prop} {s : Shared} {h₀ : Heap} {L d v : Addr} {m : Str → Option Value} {news : Ledger} {M : List (Int × Int)} {Q : Value → Shared → Prop}
theorem ints_of {vs : List Value} {ns : List Int} (hl : vs.length = ns.length) (h : ∀ (j : Nat) (u : Value), vs[j]? = some u → ∃ (k : Int) (t : Tok), ns[j]? = some k ∧ u = Value.int k t) : IntsAre vs ns := by
  induction vs generalizing ns with
  | nil =>
    cases ns with
    | nil => exact .nil
    | cons _ _ => simp at hl
  | cons a r ih =>
    cases ns with
    | nil => simp at hl
    | cons b t =>
      obtain ⟨k, tk, h1, h2⟩ := h 0 a rfl
      simp only [List.getElem?_cons_zero, Option.some.injEq] at h1
      subst h1 h2
      exact .cons _ _ (ih (by simpa using hl) fun j u hu => by simpa using h (j + 1) u (by simpa using hu))
theorem sorted_src {T : String} {r : Addr} {n : Nat} {P : Nat → Value → Prop} {OK : Heap → Prop} {ns : List Int} (K : KdlSrc prog w T r d n P OK) (hh : A.handled = none) (F : Fr h₀ L s.heap m) (N : News h₀ L s.heap news) (hok : OK s.heap) (hn : n = ns.length) (h64 : ns.length < 64)
    (hP : ∀ (i : Nat) (v : Value), P i v → ∃ (k : Int) (t : Tok), ns[i]? = some k ∧ v = Value.int k t)
    (h : ∀ (B : Addr) h' tk vs c, Fr h₀ L h' m → News h₀ L h' ((B, listOf vs.toArray c) :: news) → (∀ q ∈ news, q.1 < B) → IntsAre vs (srt ns) → Q (.ref B) { s with heap := h', toks := tk }) :
    wpAny (model prog w) A (call (.builtin "sorted") [.ref r]) Q E s := by
  refine kdu_sorted K hh F N hok (by rw [sizeLine_eq]; omega) fun B h' tk vs F' N' l1 hl hv => ?_
  have hi : IntsAre vs ns := ints_of (by omega) fun j u hu => hP j u (hv j u hu)
  have hB : ∀ p ∈ news, p.1 ≠ B := fun p hp => Nat.ne_of_lt (l1 p hp)
  refine ksk_lsort (s := { s with heap := h', toks := tk }) (its := vs.toArray) F' N' (fun o => Upd.head hB) rfl hi h64 fun vs' ns' c h2 F2 N2 i2 _ p2 s2 _ => ?_
  have e := srt_eq p2 s2
  subst e
  exact h B h2 tk vs' c F2 N2 l1 i2
theorem sorted_dict (hh : A.handled = none) (F : Fr h₀ L s.heap m) (N : News h₀ L s.heap news) (hd : IDict prog w news d M) (h64 : M.length < 64)
    (h : ∀ (B : Addr) h' tk vs c, Fr h₀ L h' m → News h₀ L h' ((B, listOf vs.toArray c) :: news) → (∀ q ∈ news, q.1 < B) → IntsAre vs (srt (M.map (·.1))) → Q (.ref B) { s with heap := h', toks := tk }) :
    wpAny (model prog w) A (call (.builtin "sorted") [.ref d]) Q E s := by
  obtain ⟨o, hm, ⟨kvs, ho, hf⟩, lo⟩ := hd
  obtain ⟨ep, hat⟩ := (Heap.dictOf_iff.mpr ⟨o, (N _ hm).1, ho⟩).dictAt
  obtain ⟨f1, f2⟩ := flat_of hf
  refine sorted_src (ns := M.map (·.1)) (kdl_dict (knd := intKind prog w) (kvs := kvs) (ep := ep) lo) hh F N hat (by simp [f1]) (by simpa using h64) (fun i v hv => ?_) h
  obtain ⟨k, x, hx, hk⟩ := hv
  obtain ⟨y, t, e1, e2⟩ := f2 i k x hx
  have hk' : ∃ t, v = Value.int k t := by
    have : Value.isInt k v = true := by simpa [intKind] using hk
    unfold Value.isInt at this
    split at this
    · rename_i j t; exact ⟨t, by simp at this; rw [this]⟩
    · cases this
  obtain ⟨t', rfl⟩ := hk'
  exact ⟨k, t', by simp [e1], rfl⟩
theorem sorted_vals (hh : A.handled = none) (F : Fr h₀ L s.heap m) (N : News h₀ L s.heap news) (hd : IDict prog w news d M) (hv : (v, ({ cls := .type "dict_values", data := .fields #[.ref d] } : Obj)) ∈ news) (h64 : M.length < 64)
    (h : ∀ (B : Addr) h' tk vs c, Fr h₀ L h' m → News h₀ L h' ((B, listOf vs.toArray c) :: news) → (∀ q ∈ news, q.1 < B) → IntsAre vs (srt (M.map (·.2))) → Q (.ref B) { s with heap := h', toks := tk }) :
    wpAny (model prog w) A (call (.builtin "sorted") [.ref v]) Q E s := by
  obtain ⟨o, hm, ⟨kvs, ho, hf⟩, lo⟩ := hd
  obtain ⟨ep, hat⟩ := (Heap.dictOf_iff.mpr ⟨o, (N _ hm).1, ho⟩).dictAt
  obtain ⟨f1, f2⟩ := flat_of hf
  refine sorted_src (ns := M.map (·.2)) (kdl_values (knd := intKind prog w) (kvs := kvs) (ep := ep)) hh F N ⟨⟨_, (N _ hv).1, rfl, rfl⟩, hat⟩ (by simp [f1]) (by simpa using h64) (fun i u hu => ?_) h
  obtain ⟨k, hx⟩ := hu
  obtain ⟨y, t, e1, e2⟩ := f2 i k u hx
  exact ⟨y, t, by simp [e1], e2⟩
end
/-! D3 -/
/-! dicts from pairs of ints (tuples) to any values -/
noncomputable abbrev GK (prog : Program) (w : World) : HeapKind prog w (List Int) := tupleKind (intKind prog w)
noncomputable abbrev GE : Type := (Int × Int) × Addr × Value
noncomputable def lk (x : GE) : List Int × Addr × Value := ([x.1.1, x.1.2], x.2)
noncomputable def GObj (prog : Program) (w : World) (news : Ledger) (o : Obj) (D : List GE) : Prop := ∃ es ep, o.ExactDict ∧ o.data = .dict es ep ∧ es.toList = (D.map lk).map (entryOfKey (GK prog w)) ∧ (∀ x ∈ D, TupAt news (.ref x.2.1) x.1) ∧ (D.map (·.1)).Nodup
theorem GObj.mono {prog : Program} {w : World} {news news' : Ledger} {o : Obj} {D : List GE} (h : GObj prog w news o D) (s : ∀ p ∈ news, p ∈ news') : GObj prog w news' o D := by
  obtain ⟨es, ep, a, b, c, d, e⟩ := h
  exact ⟨es, ep, a, b, c, fun x hx => (d x hx).mono s, e⟩
noncomputable def gat : List GE → Int × Int → Option (Addr × Value)
  | [], _ => none
  | x :: r, k => if x.1 = k then some x.2 else gat r k
noncomputable def gput (D : List GE) (k : Int × Int) (a : Addr) (v : Value) : List GE := if (gat D k).isSome then D.map (fun x => if x.1 = k then (x.1, x.2.1, v) else x) else D ++ [(k, a, v)]
theorem lk_eq {x : GE} {k : Int × Int} : (lk x).1 = [k.1, k.2] ↔ x.1 = k := by
  obtain ⟨⟨a, b⟩, c⟩ := x; obtain ⟨d, e⟩ := k
  simp [lk]
theorem atKey_lk (k : Int × Int) : ∀ D : List GE, atKey (D.map lk) [k.1, k.2] = gat D k
  | [] => rfl
  | x :: r => by
    have ih := atKey_lk k r
    unfold atKey at ih ⊢
    rw [List.map_cons, List.find?_cons]
    rw [show gat (x :: r) k = if x.1 = k then some x.2 else gat r k from rfl]
    by_cases h : x.1 = k
    · rw [decide_eq_true (lk_eq.mpr h), if_pos h]; rfl
    · rw [decide_eq_false (fun e => h (lk_eq.mp e)), if_neg h]; exact ih
theorem storedH_lk (D : List GE) (k : Int × Int) (a : Addr) (v : Value) : storedH (D.map lk) [k.1, k.2] a v = (gput D k a v).map lk := by
  unfold storedH gput
  rw [atKey_lk]
  by_cases h : (gat D k).isSome = true
  · rw [if_pos h, if_pos h, List.map_map, List.map_map]
    refine List.map_congr_left fun x _ => ?_
    simp only [Function.comp, putAt]
    by_cases e : x.1 = k
    · rw [if_pos (lk_eq.mpr e), if_pos e]; rfl
    · rw [if_neg (fun q => e (lk_eq.mp q)), if_neg e]
  · rw [if_neg h, if_neg h, List.map_append]; rfl
theorem gput_keys (D : List GE) (k : Int × Int) (a : Addr) (v : Value) : ∀ x ∈ gput D k a v, (∃ y ∈ D, x.1 = y.1 ∧ x.2.1 = y.2.1) ∨ (x.1 = k ∧ x.2.1 = a) := by
  intro x hx
  unfold gput at hx
  split at hx
  · obtain ⟨y, hy, rfl⟩ := List.mem_map.mp hx
    refine .inl ⟨y, hy, ?_⟩
    split <;> exact ⟨rfl, rfl⟩
  · rcases List.mem_append.mp hx with h | h
    · exact .inl ⟨x, h, rfl, rfl⟩
    · simp only [List.mem_singleton] at h
      subst h
      exact .inr ⟨rfl, rfl⟩
theorem lk_inj {x y : Int × Int} (h : [x.1, x.2] = [y.1, y.2]) : x = y := by
  obtain ⟨a, b⟩ := x; obtain ⟨c, d⟩ := y
  simp_all
theorem nodup_lk {D : List GE} : ((D.map lk).map (·.1)).Nodup ↔ (D.map (·.1)).Nodup := by
  rw [List.map_map]
  have e : D.map ((fun x => x.1) ∘ lk) = (D.map (·.1)).map (fun k : Int × Int => [k.1, k.2]) := by rw [List.map_map]; rfl
  rw [e]
  constructor
  · intro h
    induction D with
    | nil => exact .nil
    | cons x r ih =>
      simp only [List.map_cons, List.nodup_cons] at h ⊢
      exact ⟨fun hm => h.1 (List.mem_map_of_mem hm), ih (by rw [List.map_map]; rfl) h.2⟩
  · intro h
    induction D with
    | nil => exact .nil
    | cons x r ih =>
      simp only [List.map_cons, List.nodup_cons] at h ⊢
      refine ⟨fun hm => h.1 ?_, ih (by rw [List.map_map]; rfl) h.2⟩
      obtain ⟨y, hy, e⟩ := List.mem_map.mp hm
      rw [← lk_inj e]; exact hy
section
variable {prog : Program} {w : World} {A : Around} {E : Value → Shared → Prop} {s : Shared} {h₀ h : Heap} {L d t : Addr} {m : Str → Option Value} {full news : Ledger} {o : Obj} {D : List GE} {k : Int × Int}
theorem tupKey (N : News h₀ L h full) (H : TupAt full (.ref t) k) : (GK prog w).is h [k.1, k.2] t := by
  obtain ⟨a, u, v, n, e, m⟩ := H
  injection e with e
  subst e
  exact ⟨_, _, _, (N _ m).1, rfl, rfl, .cons (intKind_is _ _ _ _) (.cons (intKind_is _ _ _ _) .nil)⟩
theorem GObj.heap (N : News h₀ L h full) (sub : ∀ p ∈ news, p ∈ full) (hm : (d, o) ∈ full) (g : GObj prog w news o D) : h.DictOfH (GK prog w) d (D.map lk) := by
  obtain ⟨es, ep, a, b, c, e, f⟩ := g
  refine ⟨o, es, ep, (N _ hm).1, a, b, c, fun x hx => ?_, nodup_lk.mpr f⟩
  obtain ⟨y, hy, rfl⟩ := List.mem_map.mp hx
  exact tupKey N ((e y hy).mono sub)
theorem g_get {Q : Value → Shared → Prop} (N : News h₀ L s.heap full) (hu : A.units + 1 < cLine) (lo : (d == sysModules) = false) (sub : ∀ p ∈ news, p ∈ full) (hm : (d, o) ∈ full) (g : GObj prog w news o D) (ht : TupAt full (.ref t) k)
    (h : ∀ tk, Q (((gat D k).map (·.2)).getD .none) { s with toks := tk }) : wpAny (model prog w) A (call (.builtin "dict.get") [.ref d, .ref t]) Q E s := by
  have hd := g.heap N sub hm
  refine call_meetsIn PySem.F.slot_dict_get hd.typeIs PySem.F.entry_dict_get (PySem.F.args_dict_get_2 _ _) (meetsH_dict_get (GK prog w) d t lo) ⟨hu, [k.1, k.2], D.map lk, tupKey N ht, hd, ?_⟩
  rw [atKey_lk]
  exact h _
theorem g_item {value slice : Expr} {p : Addr × Value} {Q : Value → Shared → Prop} (N : News h₀ L s.heap full) (hu : A.units + 1 < cLine) (sub : ∀ p ∈ news, p ∈ full) (hm : (d, o) ∈ full) (g : GObj prog w news o D) (ht : TupAt full (.ref t) k) (hp : gat D k = some p)
    (h : ∀ tk, Q p.2 { s with toks := tk })
    (hs : subscripted slice false (.ref d) (.ref t) = operate [.ref d, .ref t] (getItem (.ref d) (.ref t)) := by with_unfolding_all rfl) : wpAny (model prog w) A (subscriptTail value slice (.ref d) (.ref t)) Q E s := by
  have hd := g.heap N sub hm
  exact tail_any hd.typeIs slot_dict_getitem.lookup (wpAny_getItem_heap (k := [k.1, k.2]) hu (tupKey N ht) hd (by rw [atKey_lk]; exact hp) (h _)) hs
theorem g_set {v : Value} {G : Obj → Ledger} {Q : Unit → Shared → Prop} (F : Fr h₀ L s.heap m) (N : News h₀ L s.heap full) (hu : A.units + 1 < cLine) (sub : ∀ p ∈ news, p ∈ full) (U : UpdF d o full G) (g : GObj prog w news o D) (ht : TupAt news (.ref t) k) (hz : D.length ≤ 1000)
    (h : ∀ h' o' tk, Fr h₀ L h' m → News h₀ L h' (G o') → GObj prog w news o' (gput D k t v) → Q () { s with heap := h', toks := tk }) : wpAny (model prog w) A (setItem (.ref d) (.ref t) v) Q E s := by
  obtain ⟨pre, post, e0, hg, x1, x2⟩ := U.split
  have hm : (d, o) ∈ full := by rw [e0]; simp
  have hd := g.heap N sub hm
  have nd := (N _ hm).2
  refine wpAny_setItem_heap (knd := GK prog w) (k := [k.1, k.2]) hu (tupKey N (ht.mono sub)) hd (fun h' hd' hs' => ?_) (by rw [List.length_map, sizeLine_eq]; omega)
  rw [storedH_lk] at hd'
  obtain ⟨o', es', ep', ho', a, b, c, _, f⟩ := hd'
  refine h h' o' _ (kas_fr F hs' nd.1 nd.2) ?_ ?_
  · rw [hg]
    intro p hp
    rcases List.mem_append.mp hp with hp | hp
    · have z := N p (by rw [e0]; exact List.mem_append_left _ hp)
      exact ⟨(hs'.2 _ (x1 p hp)).trans z.1, z.2⟩
    · rcases List.mem_cons.mp hp with rfl | hp
      · exact ⟨ho', nd⟩
      · have z := N p (by rw [e0]; exact List.mem_append_right _ (.tail _ hp))
        exact ⟨(hs'.2 _ (x2 p hp)).trans z.1, z.2⟩
  · obtain ⟨_, _, _, _, _, e, _⟩ := g
    refine ⟨es', ep', a, b, c, fun x hx => ?_, nodup_lk.mp f⟩
    rcases gput_keys D k t v x hx with ⟨y, hy, e1, e2⟩ | ⟨e1, e2⟩
    · rw [e1, e2]; exact e y hy
    · rw [e1, e2]; exact ht
noncomputable def gkeys (D : List GE) : List (Int × Int) := D.map (·.1)
theorem tups_of {vs : List Value} : ∀ {ks : List (Int × Int)}, vs.length = ks.length → (∀ (j : Nat) (u : Value), vs[j]? = some u → ∃ k, ks[j]? = some k ∧ TupAt news u k) → Tups news vs ks := by
  induction vs with
  | nil =>
    intro ks hl h
    cases ks with
    | nil => exact .nil
    | cons _ _ => simp at hl
  | cons a r ih =>
    intro ks hl h
    cases ks with
    | nil => simp at hl
    | cons b t =>
      obtain ⟨k, h1, h2⟩ := h 0 a rfl
      simp only [List.getElem?_cons_zero, Option.some.injEq] at h1
      subst h1
      exact .cons h2 (ih (by simpa using hl) fun j u hu => by simpa using h (j + 1) u (by simpa using hu))
theorem g_sorted {Q : Value → Shared → Prop} (hh : A.handled = none) (F : Fr h₀ L s.heap m) (N : News h₀ L s.heap full) (lo : (d == sysModules) = false) (sub : ∀ p ∈ news, p ∈ full) (hm : (d, o) ∈ full) (g : GObj prog w news o D)
    (hb : ∀ x ∈ D, Small x.1) (h64 : D.length < 64)
    (h : ∀ (B : Addr) h' tk vs ks c, Fr h₀ L h' m → News h₀ L h' ((B, listOf vs.toArray c) :: full) → (∀ q ∈ full, q.1 < B) → Tups news vs ks → ks.Perm (gkeys D) → ks.Pairwise (fun a b => code a < code b) → Q (.ref B) { s with heap := h', toks := tk }) :
    wpAny (model prog w) A (call (.builtin "sorted") [.ref d]) Q E s := by
  obtain ⟨es, ep, a, b, c, e, f⟩ := g
  have hr : RawD s.heap d es ep := ⟨o, (N _ hm).1, a.1, b⟩
  have hsz : es.size = D.length := by have := congrArg List.length c; simpa using this
  refine kdu_sorted (raw_src lo) hh F N hr (by rw [sizeLine_eq]; omega) fun B h' tk vs F' N' l1 hl hv => ?_
  have hB : ∀ p ∈ full, p.1 ≠ B := fun p hp => Nat.ne_of_lt (l1 p hp)
  have ht : Tups news vs (gkeys D) := by
    refine tups_of (by rw [hl, hsz]; simp [gkeys]) fun j u hu => ?_
    obtain ⟨en, he, rfl⟩ := hv j u hu
    have he' : es.toList[j]? = some en := by rw [Array.getElem?_toList]; exact he
    rw [c, List.map_map, List.getElem?_map] at he'
    cases hD : D[j]? with
    | none => rw [hD] at he'; simp at he'
    | some x =>
      rw [hD] at he'
      simp only [Option.map_some, Option.some.injEq] at he'
      subst he'
      exact ⟨x.1, by simp [gkeys, hD], e x (List.mem_of_getElem? hD)⟩
  refine sort_tups (s := { s with heap := h', toks := tk }) (news := full) F' N' hB sub ht (fun k hk => ?_) f (by omega) fun h2 c2 vs' ks' F2 N2 t2 p2 s2 => ?_
  · obtain ⟨x, hx, rfl⟩ := List.mem_map.mp hk
    exact hb x hx
  · exact h B h2 tk vs' ks' c2 F2 N2 l1 t2 p2 s2
end
/-! C1 -/
/-! what a comprehension or a loop draws from -/
noncomputable def Iters (prog : Program) (w : World) (A : Around) (h₀ : Heap) (L : Addr) (S : Ledger → Prop) (P : Nat → Value → Prop) (n : Nat) (xv : Value) (s₁ : Shared) : Prop :=
  ∀ (E : Value → Shared → Prop) (Q : Value → Shared → Prop),
    (∀ (oI : Obj) (fp : List Addr) (St : Nat → Heap → Prop), Walks prog w A s₁.heap.objs.size fp [s₁.heap.objs.size] n P St → (∀ i h, St i h → ∃ o, h.get? s₁.heap.objs.size = some o) →
      (∀ i h h' o nw, St i h → h.get? s₁.heap.objs.size = some o → h'.get? s₁.heap.objs.size = some o → (∀ b o, h₀.get? b = some o → h'.get? b = some o) → News h₀ L h' nw → S nw → St i h') →
      St 0 (s₁.heap.push oI) → (∀ b ∈ fp, b < (s₁.heap.push oI).objs.size) → Q (.ref s₁.heap.objs.size) { s₁ with heap := s₁.heap.push oI }) →
    wpAny (model prog w) A (pyIter xv) Q E s₁
section
variable {prog : Program} {w : World} {A : Around} {h₀ : Heap} {L ax d v : Addr} {news : Ledger} {s₁ : Shared} {its : Array Value} {o : Obj} {k ep : Nat} {es : Array DictEntry}
theorem iters_list (hh : A.handled = none) (N : News h₀ L s₁.heap news) (hm : (ax, ({ cls := .type "list", data := .seq its k } : Obj)) ∈ news) :
    Iters prog w A h₀ L (fun nw => (ax, ({ cls := .type "list", data := .seq its k } : Obj)) ∈ nw) (fun i v => its[i]? = some v) its.size (.ref ax) s₁ := by
  intro E Q h
  have hl : s₁.heap.IsList ax its := ⟨_, (N _ hm).1, rfl, _, rfl⟩
  have hlt : ax < s₁.heap.objs.size := Heap.lt_size (N _ hm).1
  refine wpAny_pyIter_list hl (h _ _ _ (Walks.list hh s₁.heap.objs.size ax (Nat.ne_of_lt hlt) its) (fun i h st => by obtain ⟨o, e, _⟩ := st.1; exact ⟨o, e⟩) (fun i h h' o nw st e e' _ N' S => ?_) ⟨⟨_, Heap.get?_push_size _ rfl, rfl, rfl⟩, hl.push _⟩ (fun b hb => ?_))
  · obtain ⟨o', q, r⟩ := st.1
    rw [e] at q; cases q
    exact ⟨⟨o, e', r⟩, ⟨_, (N' _ S).1, rfl, _, rfl⟩⟩
  · rw [Heap.size_push]
    rcases List.mem_cons.mp hb with rfl | hb
    · exact Nat.lt_succ_self _
    · rw [List.mem_singleton.mp hb]; exact Nat.lt_succ_of_lt hlt
theorem iters_tuple (hh : A.handled = none) (N : News h₀ L s₁.heap news) (hm : (ax, ({ cls := .type "tuple", data := .seq its k } : Obj)) ∈ news) :
    Iters prog w A h₀ L (fun nw => (ax, ({ cls := .type "tuple", data := .seq its k } : Obj)) ∈ nw) (fun i v => its[i]? = some v) its.size (.ref ax) s₁ := by
  intro E Q h
  have hl : s₁.heap.IsTuple ax its := ⟨_, (N _ hm).1, rfl, _, rfl⟩
  have hlt : ax < s₁.heap.objs.size := Heap.lt_size (N _ hm).1
  refine wpAny_pyIter_tuple hl (h _ _ _ (Walks.tuple hh s₁.heap.objs.size ax (Nat.ne_of_lt hlt) its) (fun i h st => by obtain ⟨o, e, _⟩ := st.1; exact ⟨o, e⟩) (fun i h h' o nw st e e' _ N' S => ?_) ⟨⟨_, Heap.get?_push_size _ rfl, rfl, rfl⟩, hl.push _⟩ (fun b hb => ?_))
  · obtain ⟨o', q, r⟩ := st.1
    rw [e] at q; cases q
    exact ⟨⟨o, e', r⟩, ⟨_, (N' _ S).1, rfl, _, rfl⟩⟩
  · rw [Heap.size_push]
    rcases List.mem_cons.mp hb with rfl | hb
    · exact Nat.lt_succ_self _
    · rw [List.mem_singleton.mp hb]; exact Nat.lt_succ_of_lt hlt
theorem iters_keys (hh : A.handled = none) (N : News h₀ L s₁.heap news) (lo : (d == sysModules) = false) (hm : (d, o) ∈ news) (hc : o.cls = .type "dict") (hd : o.data = .dict es ep) :
    Iters prog w A h₀ L (fun nw => (d, o) ∈ nw) (fun i v => ∃ e, es[i]? = some e ∧ v = e.key) es.size (.ref d) s₁ := by
  intro E Q h
  have hl : RawD s₁.heap d es ep := ⟨_, (N _ hm).1, hc, hd⟩
  have hlt : d < s₁.heap.objs.size := Heap.lt_size (N _ hm).1
  refine raw_iter lo hl (h _ _ _ (raw_keys (ep := ep) hh s₁.heap.objs.size (Nat.ne_of_lt hlt)) (fun i h st => by obtain ⟨o, e, _⟩ := st.1; exact ⟨o, e⟩) (fun i h h' o nw st e e' _ N' S => ?_) ⟨⟨_, Heap.get?_push_size _ rfl, rfl, rfl⟩, hl.at fun _ e => Heap.get?_push_of_some _ e⟩ (fun b hb => ?_))
  · obtain ⟨o', q, r⟩ := st.1
    rw [e] at q; cases q
    exact ⟨⟨o, e', r⟩, ⟨_, (N' _ S).1, hc, hd⟩⟩
  · rw [Heap.size_push]
    rcases List.mem_cons.mp hb with rfl | hb
    · exact Nat.lt_succ_self _
    · rw [List.mem_singleton.mp hb]; exact Nat.lt_succ_of_lt hlt
theorem iters_values (hh : A.handled = none) (N : News h₀ L s₁.heap news) (hv : (v, ({ cls := .type "dict_values", data := .fields #[.ref d] } : Obj)) ∈ news) (hm : (d, o) ∈ news) (hc : o.cls = .type "dict") (hd : o.data = .dict es ep) :
    Iters prog w A h₀ L (fun nw => (d, o) ∈ nw) (fun i v => ∃ e, es[i]? = some e ∧ v = e.val) es.size (.ref v) s₁ := by
  intro E Q h
  have hl : RawD s₁.heap d es ep := ⟨_, (N _ hm).1, hc, hd⟩
  have hlt : d < s₁.heap.objs.size := Heap.lt_size (N _ hm).1
  refine raw_iter_values ⟨_, (N _ hv).1, rfl, rfl⟩ hl (h _ _ _ (raw_values (ep := ep) hh s₁.heap.objs.size (Nat.ne_of_lt hlt)) (fun i h st => by obtain ⟨o, e, _⟩ := st.1; exact ⟨o, e⟩) (fun i h h' o nw st e e' _ N' S => ?_) ⟨⟨_, Heap.get?_push_size _ rfl, rfl, rfl⟩, hl.at fun _ e => Heap.get?_push_of_some _ e⟩ (fun b hb => ?_))
  · obtain ⟨o', q, r⟩ := st.1
    rw [e] at q; cases q
    exact ⟨⟨o, e', r⟩, ⟨_, (N' _ S).1, hc, hd⟩⟩
  · rw [Heap.size_push]
    rcases List.mem_cons.mp hb with rfl | hb
    · exact Nat.lt_succ_self _
    · rw [List.mem_singleton.mp hb]; exact Nat.lt_succ_of_lt hlt
theorem iters_range {r : Addr} {a b : Int} {t u v : Tok} {n : Nat} (hh : A.handled = none) (hr : IsRange s₁.heap r a b 1 t u v) (hsm : Builtin.Range.small a b 1 = true) (hn : Builtin.Range.rangeSize a b 1 = ((n : Nat) : Int)) :
    Iters prog w A h₀ L (fun _ => True) (fun i v => ∃ t, v = .int (a + (i : Int)) t) n (.ref r) s₁ := by
  intro E Q h
  refine wpAny_pyIter_range hr hsm (h _ _ _ (LCg.range_walks hh a n) (fun i h st => ⟨_, st⟩) (fun i h h' o nw st e e' k N' S => LCg.range_st i h h' o nw st e e' k N' trivial) (by show IsRangeIter _ _ _ _ _; rw [hn]; simpa using Heap.get?_push_size _ rfl) (fun b hb => ?_))
  rw [List.mem_singleton.mp hb, Heap.size_push]
  exact Nat.lt_succ_self _
end
/-! list comprehensions over such a source -/
noncomputable def CompSrcW (prog : Program) (w : World) (A : Around) (h₀ : Heap) (L : Addr) (m : Str → Option Value) (env : Env) (elt : Expr) (x : Str) (scope : Scope) (cl : List (Str × Addr)) (Q : Value → Shared → Prop) (xv : Value) (s₁ : Shared) : Prop :=
  ∃ news S P n, Fr h₀ L s₁.heap m ∧ News h₀ L s₁.heap news ∧ Iters prog w A h₀ L S P n xv s₁ ∧ n ≤ sizeLine ∧ S news ∧
    ∀ g, LCg.CompRest prog w A h₀ L m env elt x scope cl { s₁ with heap := g } S P (LCg.FinE h₀ L m { s₁ with heap := g } Q) n 0 [] news
noncomputable def CompSrcWT (prog : Program) (w : World) (A : Around) (h₀ : Heap) (L : Addr) (m : Str → Option Value) (env : Env) (ct elt : Expr) (x : Str) (scope : Scope) (cl : List (Str × Addr)) (Q : Value → Shared → Prop) (xv : Value) (s₁ : Shared) : Prop :=
  ∃ news S P n, Fr h₀ L s₁.heap m ∧ News h₀ L s₁.heap news ∧ Iters prog w A h₀ L S P n xv s₁ ∧ n ≤ sizeLine ∧ S news ∧
    ∀ g, LCt.CompRestT prog w A h₀ L m env ct elt x scope cl { s₁ with heap := g } S P (LCg.FinE h₀ L m { s₁ with heap := g } Q) n 0 [] news
section
variable {prog : Program} {w : World} {A : Around} {E : Value → Shared → Prop} {s : Shared} {h₀ : Heap} {L : Addr} {m : Str → Option Value} {env : Env}
theorem ListComp_W {elt iter : Expr} {x : Str} {px : Pos} {scope : Scope} {cl : List (Str × Addr)} {pos : Pos} {Q : Value → Shared → Prop} (F₀ : Fr h₀ L s.heap m)
    (hclos : closureFor scope env = pure cl) (hcell : ∀ y ∈ scope.names, y.2 ≠ .cell) (hkind : scope.kind = .function)
    (hnames : ∀ y ∈ scope.names, y.2 = .local → scope.names.lookup y.1 = some .local) (hx : scope.names.lookup x = some .local)
    (h : wpAny (model prog w) A (eval iter env) (CompSrcW prog w A h₀ L m env elt x scope cl Q) E s)
    (hs : ∀ x, foldedSetIterable iter env x = pure x := by intro _; rfl) :
    wpAny (model prog w) A (eval (.ListComp elt [⟨.Name x px, iter, [], 0⟩] scope pos) env) Q E s := by
  let _ := F₀
  rw [eval_ListComp]
  refine wpAny_comprehension_free (use := none) rfl hs hclos hkind hnames (wpAny_mono h (fun xv s₁ h₁ => ?_) fun _ _ e => e)
  obtain ⟨news, S, P, n, F, N, I, hsz, hS, R⟩ := h₁
  refine I _ _ fun oI fp St W hIo hSt st hfp => ?_
  have up : ∀ b o, s₁.heap.get? b = some o → (s₁.heap.push oI).get? b = some o := fun b o e => Heap.get?_push_of_some _ e
  refine LCg.block_U W hsz hIo hSt hcell hkind hx st hfp (F.keeps up) (N.grown up) (Nat.ne_of_lt F.ns.lt) (next_is_new F) (fun p hp => Nat.ne_of_lt (Heap.lt_size (N p hp).1)) hS (R _) ?_
  intro D C h tk m' ys news' F' N' o1 hn hC₀ hD₀ hCL hDL hCD offC fin
  refine ⟨m', hn, fun h'' hs'' => fin D h'' tk (F'.change hs'' hCL hC₀) (fun p hp => ?_) o1⟩
  refine ⟨hs''.extBut _ _ ?_ (N' p hp).1, (N' p hp).2⟩
  rcases List.mem_cons.mp hp with rfl | hp
  · exact Ne.symm hCD
  · exact offC p hp
theorem ListComp_WT {ct elt iter : Expr} {x : Str} {px : Pos} {scope : Scope} {cl : List (Str × Addr)} {pos : Pos} {Q : Value → Shared → Prop} (F₀ : Fr h₀ L s.heap m)
    (hclos : closureFor scope env = pure cl) (hcell : ∀ y ∈ scope.names, y.2 ≠ .cell) (hkind : scope.kind = .function)
    (hnames : ∀ y ∈ scope.names, y.2 = .local → scope.names.lookup y.1 = some .local) (hx : scope.names.lookup x = some .local)
    (h : wpAny (model prog w) A (eval iter env) (CompSrcWT prog w A h₀ L m env ct elt x scope cl Q) E s)
    (hs : ∀ x, foldedSetIterable iter env x = pure x := by intro _; rfl) :
    wpAny (model prog w) A (eval (.ListComp elt [⟨.Name x px, iter, [ct], 0⟩] scope pos) env) Q E s := by
  let _ := F₀
  rw [eval_ListComp]
  refine wpAny_comprehension_free (use := none) rfl hs hclos hkind hnames (wpAny_mono h (fun xv s₁ h₁ => ?_) fun _ _ e => e)
  obtain ⟨news, S, P, n, F, N, I, hsz, hS, R⟩ := h₁
  refine I _ _ fun oI fp St W hIo hSt st hfp => ?_
  have up : ∀ b o, s₁.heap.get? b = some o → (s₁.heap.push oI).get? b = some o := fun b o e => Heap.get?_push_of_some _ e
  refine LCt.block_T W hsz hIo hSt hcell hkind hx st hfp (F.keeps up) (N.grown up) (Nat.ne_of_lt F.ns.lt) (next_is_new F) (fun p hp => Nat.ne_of_lt (Heap.lt_size (N p hp).1)) hS (R _) ?_
  intro D C h tk m' ys news' F' N' o1 hn hC₀ hD₀ hCL hDL hCD offC fin
  refine ⟨m', hn, fun h'' hs'' => fin D h'' tk (F'.change hs'' hCL hC₀) (fun p hp => ?_) o1⟩
  refine ⟨hs''.extBut _ _ ?_ (N' p hp).1, (N' p hp).2⟩
  rcases List.mem_cons.mp hp with rfl | hp
  · exact Ne.symm hCD
  · exact offC p hp
theorem rest_ind {elt : Expr} {x : Str} {scope : Scope} {cl : List (Str × Addr)} {S : Ledger → Prop} {P : Nat → Value → Prop} {Fin : List Value → Ledger → Prop} {n : Nat} {news : Ledger} (Inv : Nat → List Value → Ledger → Prop)
    (turn : ∀ i ys nw v I oI C oC D m₂ h tk (E' : Value → Shared → Prop), i < n → Inv i ys nw → P i v → LCg.NsObj oC m₂ → m₂ x = some v → Fr h₀ L h m → News h₀ L h ((I, oI) :: (C, oC) :: (D, LCg.lst ys) :: nw) → LCg.Off3 I C D nw → ((@Ne Nat I C) ∧ (@Ne Nat I D) ∧ (@Ne Nat C D)) →
      wpAny (model prog w) A (eval elt (compEnvC scope cl C env)) (LCg.CompEnd h₀ L m { s with heap := h, toks := tk } I oI C oC D (LCg.lst ys) S (fun y nw' => Inv (i + 1) (ys ++ [y]) nw')) E' { s with heap := h, toks := tk })
    (fin : ∀ ys nw, Inv n ys nw → Fin ys nw) (h0 : Inv 0 [] news) : LCg.CompRest prog w A h₀ L m env elt x scope cl s S P Fin n 0 [] news := by
  have key : ∀ (k i : Nat) (ys : List Value) (nw : Ledger), i + k = n → Inv i ys nw → LCg.CompRest prog w A h₀ L m env elt x scope cl s S P Fin k i ys nw := by
    intro k
    induction k with
    | zero =>
      intro i ys nw hi hv
      have e : i = n := by omega
      subst e
      exact fin ys nw hv
    | succ k ih =>
      intro i ys nw hi hv
      intro v I oI C oC D m₂ h tk E' hP hC hx F N off ne
      refine wpAny_mono (turn i ys nw v I oI C oC D m₂ h tk E' (by omega) hv hP hC hx F N off ne) (fun y s' hq => ?_) fun _ _ e => e
      obtain ⟨h', tk', nw', e, F', N', off', hS, hr⟩ := hq
      exact ⟨h', tk', nw', e, F', N', off', hS, ih (i + 1) _ nw' (by omega) hr⟩
  exact key n 0 [] news (by omega) h0
theorem rest_indT {ct elt : Expr} {x : Str} {scope : Scope} {cl : List (Str × Addr)} {S : Ledger → Prop} {P : Nat → Value → Prop} {Fin : List Value → Ledger → Prop} {n : Nat} {news : Ledger} (Inv : Nat → List Value → Ledger → Prop)
    (turn : ∀ i ys nw v I oI C oC D m₂ h tk (E' : Value → Shared → Prop), i < n → Inv i ys nw → P i v → LCg.NsObj oC m₂ → m₂ x = some v → Fr h₀ L h m → News h₀ L h ((I, oI) :: (C, oC) :: (D, LCg.lst ys) :: nw) → LCg.Off3 I C D nw → ((@Ne Nat I C) ∧ (@Ne Nat I D) ∧ (@Ne Nat C D)) →
      wpAny (model prog w) A (isTrue ct (compEnvC scope cl C env) (eval ct (compEnvC scope cl C env))) (fun ok s' => if ok = true then
        wpAny (model prog w) A (eval elt (compEnvC scope cl C env)) (LCg.CompEnd h₀ L m { s with heap := h, toks := tk } I oI C oC D (LCg.lst ys) S (fun y nw' => Inv (i + 1) (ys ++ [y]) nw')) E' s'
        else LCg.CompEnd h₀ L m { s with heap := h, toks := tk } I oI C oC D (LCg.lst ys) S (fun _ nw' => Inv (i + 1) ys nw') Value.none s') E' { s with heap := h, toks := tk })
    (fin : ∀ ys nw, Inv n ys nw → Fin ys nw) (h0 : Inv 0 [] news) : LCt.CompRestT prog w A h₀ L m env ct elt x scope cl s S P Fin n 0 [] news := by
  have key : ∀ (k i : Nat) (ys : List Value) (nw : Ledger), i + k = n → Inv i ys nw → LCt.CompRestT prog w A h₀ L m env ct elt x scope cl s S P Fin k i ys nw := by
    intro k
    induction k with
    | zero =>
      intro i ys nw hi hv
      have e : i = n := by omega
      subst e
      exact fin ys nw hv
    | succ k ih =>
      intro i ys nw hi hv
      intro v I oI C oC D m₂ h tk E' hP hC hx F N off ne
      refine wpAny_mono (turn i ys nw v I oI C oC D m₂ h tk E' (by omega) hv hP hC hx F N off ne) (fun b s' hq => ?_) fun _ _ e => e
      cases b with
      | true =>
        simp only [if_true] at hq ⊢
        refine wpAny_mono hq (fun y s' hq => ?_) fun _ _ e => e
        obtain ⟨h', tk', nw', e, F', N', off', hS, hr⟩ := hq
        exact ⟨h', tk', nw', e, F', N', off', hS, ih (i + 1) _ nw' (by omega) hr⟩
      | false =>
        simp only [Bool.false_eq_true, if_false] at hq ⊢
        obtain ⟨h', tk', nw', e, F', N', off', hS, hr⟩ := hq
        exact ⟨h', tk', nw', e, F', N', off', hS, ih (i + 1) _ nw' (by omega) hr⟩
  exact key n 0 [] news (by omega) h0
end
/-! C2 -/
/-! the end of a comprehension's turn -/
inductive Strip (a b c : Addr × Obj) : Ledger → Ledger → Prop
  | nil {l : Ledger} : Strip a b c (a :: b :: c :: l) l
  | cons {p : Addr × Obj} {l l' : Ledger} : Strip a b c l l' → Strip a b c (p :: l) (p :: l')
  | app {t l l' : Ledger} : Strip a b c l l' → Strip a b c (t ++ l) (t ++ l')
theorem Strip.sub {a b c : Addr × Obj} {l l' : Ledger} (h : Strip a b c l l') : ∀ p ∈ a :: b :: c :: l', p ∈ l := by
  induction h with
  | nil => exact fun p hp => hp
  | cons h ih =>
    intro p hp
    simp only [List.mem_cons] at hp ih ⊢
    rcases hp with h | h | h | h | h
    · exact .inr (ih _ (.inl h))
    · exact .inr (ih _ (.inr (.inl h)))
    · exact .inr (ih _ (.inr (.inr (.inl h))))
    · exact .inl h
    · exact .inr (ih _ (.inr (.inr (.inr h))))
  | app h ih =>
    intro p hp
    simp only [List.mem_cons, List.mem_append] at hp ih ⊢
    rcases hp with h | h | h | h | h
    · exact .inr (ih _ (.inl h))
    · exact .inr (ih _ (.inr (.inl h)))
    · exact .inr (ih _ (.inr (.inr (.inl h))))
    · exact .inl h
    · exact .inr (ih _ (.inr (.inr (.inr h))))
theorem off3_app {I C D : Addr} {oI oC oD : Obj} {full tl l : Ledger} (h : Above full tl) (m1 : (I, oI) ∈ full) (m2 : (C, oC) ∈ full) (m3 : (D, oD) ∈ full) (k : LCg.Off3 I C D l) : LCg.Off3 I C D (tl ++ l) :=
  LCg.Off3.of fun p hp => by
    rcases List.mem_append.mp hp with hp | hp
    · exact ⟨above_ne h m1 p hp, above_ne h m2 p hp, above_ne h m3 p hp⟩
    · exact LCg.Off3.mem k p hp
theorem reg10 : True := by
  k_with "STRIP" => first | exact Strip.nil | (refine' Strip.cons ?zst1; (case zst1 => walk_at "STRIP")) | (refine' Strip.app ?zst1; (case zst1 => walk_at "STRIP"))
  k_with "OFF3" => first | exact True.intro | assumption | (refine And.intro ⟨by k_ne, by k_ne, by k_ne⟩ ?_; walk_at "OFF3") | (refine off3_app (by assumption) (by k_mem) (by k_mem) (by k_mem) ?_; walk_at "OFF3")
  trivial
theorem comp_end {h₀ : Heap} {L I C D : Addr} {m : Str → Option Value} {s₁ : Shared} {oI oC oD : Obj} {S : Ledger → Prop} {rest : Value → Ledger → Prop} {y : Value} {h' : Heap} {tk : Nat} {all news' : Ledger}
    (F : Fr h₀ L h' m) (N : News h₀ L h' all) (st : Strip (I, oI) (C, oC) (D, oD) all news') (off : LCg.Off3 I C D news') (hS : S news') (r : rest y news') :
    LCg.CompEnd h₀ L m s₁ I oI C oC D oD S rest y { s₁ with heap := h', toks := tk } := .intro F N news' st.sub off hS r
theorem reg11 : True := by
  k_with "CompEnd" => (k_here; refine' comp_end (by assumption) (by assumption) ?zst ?zoff ?zhS ?_; (case zst => walk_at "STRIP"); (case zoff => walk_at "OFF3"); (case zhS => first | exact True.intro | k_mem))
  trivial
/-- the ledger of the turns: what was there, and data on top -/
noncomputable def Grow (base : Ledger) (R : Nat → List Value → Ledger → Prop) (i : Nat) (ys : List Value) (nw : Ledger) : Prop := ∃ tl, nw = tl ++ base ∧ Above base tl ∧ R i ys tl
theorem grow_end {base nw tl : Ledger} {R : Nat → List Value → Ledger → Prop} {i : Nat} {ys : List Value} (s : Spl base nw tl) (a : Above base tl) (r : R i ys tl) : Grow base R i ys nw := ⟨tl, s.eq.symm, a, r⟩
theorem reg12 : True := by
  k_with "newTuple" => (k_here; k_dflt (refine' kup_newTuple ?zF ?zN ?_ ?zz; (case zF => k_asm); (case zN => k_asm); (case zz => kmk_size)); intros; (rename_i l1; k_lt l1; revert l1; intros))
  k_with "call type:tuple" => (k_here; (with_reducible show wpAny _ _ (call (Value.type _) [Value.ref _]) _ _ _); k_dflt (refine' kde_tupleOf ?zk1 ?zk2 ?zk3 ?zk4 ?zk5 ?_; (case zk1 => k_asm); (case zk2 => k_asm); (case zk3 => exact News.isList (by k_asm) (by k_mem)); (case zk4 => first | exact Nat.le_of_ble_eq_true rfl | (rw [List.size_toArray]; omega)); (case zk5 => exact List.toList_toArray); k_whole); intros; (rename_i l1; k_lt l1; revert l1; intros))
  trivial
theorem datTake {news news' : Ledger} {ys : List Value} {ds : List Dat} {i : Nat} {v : Value} {d : Dat} (h : DatAll news ys (ds.take i)) (e : ds[i]? = some d) (sub : ∀ p ∈ news, p ∈ news') (k : DatIn news' v d) : DatAll news' (ys ++ [v]) (ds.take (i + 1)) := by
  rw [List.take_add_one, e]
  exact (h.mono sub).append (.one k)
theorem datEnd {news : Ledger} {ys : List Value} {ds : List Dat} {n : Nat} (h : DatAll news ys (ds.take n)) (e : n = ds.length) : DatAll news ys ds := by subst e; rwa [List.take_length] at h
theorem reg13 : True := by
  k_with "GROW" => (refine' grow_end ?zsp ?zab ?_; (case zsp => walk_at "SPL"); (case zab => walk_at "ABOVE"))
  trivial
theorem datSnoc {news : Ledger} {vs : List Value} {ds : List Dat} {v : Value} {d : Dat} (h : DatAll news vs ds) (k : DatIn news v d) : DatAll news (vs ++ [v]) (ds ++ [d]) := h.append (.one k)
section
variable {prog : Program} {w : World} {A : Around} {E : Value → Shared → Prop} {s : Shared} {h₀ : Heap} {L : Addr} {m : Str → Option Value} {env : Env} {ct elt : Expr} {x : Str} {scope : Scope} {cl : List (Str × Addr)} {Q : Value → Shared → Prop} {xv : Value} {s₁ : Shared} {base : Ledger} {S : Ledger → Prop} {P : Nat → Value → Prop} {n : Nat}
theorem src_grow (F : Fr h₀ L s₁.heap m) (N : News h₀ L s₁.heap base) (I : Iters prog w A h₀ L S P n xv s₁) (hsz : n ≤ sizeLine) (hS : S base) (R : Nat → List Value → Ledger → Prop) (h0 : R 0 [] [])
    (turn : ∀ i ys tl v I oI C oC D m₂ h tk (E' : Value → Shared → Prop), i < n → Above base tl → R i ys tl → P i v → LCg.NsObj oC m₂ → m₂ x = some v → Fr h₀ L h m → News h₀ L h ((I, oI) :: (C, oC) :: (D, LCg.lst ys) :: (tl ++ base)) → LCg.Off3 I C D (tl ++ base) → ((@Ne Nat I C) ∧ (@Ne Nat I D) ∧ (@Ne Nat C D)) →
      wpAny (model prog w) A (eval elt (compEnvC scope cl C env)) (LCg.CompEnd h₀ L m { s₁ with heap := h, toks := tk } I oI C oC D (LCg.lst ys) S (fun y nw' => Grow base R (i + 1) (ys ++ [y]) nw')) E' { s₁ with heap := h, toks := tk })
    (fin : ∀ g ys tl, Above base tl → R n ys tl → LCg.FinE h₀ L m { s₁ with heap := g } Q ys (tl ++ base)) : CompSrcW prog w A h₀ L m env elt x scope cl Q xv s₁ := by
  refine ⟨base, S, P, n, F, N, I, hsz, hS, fun g => rest_ind (Grow base R) ?_ ?_ ⟨[], rfl, Above.nil, h0⟩⟩
  · rintro i ys nw v I oI C oC D m₂ h tk E' hi ⟨tl, rfl, ha, hr⟩ hP hC hx F' N' off ne
    exact turn i ys tl v I oI C oC D m₂ h tk E' hi ha hr hP hC hx F' N' off ne
  · rintro ys nw ⟨tl, rfl, ha, hr⟩
    exact fin g ys tl ha hr
theorem src_growT (F : Fr h₀ L s₁.heap m) (N : News h₀ L s₁.heap base) (I : Iters prog w A h₀ L S P n xv s₁) (hsz : n ≤ sizeLine) (hS : S base) (R : Nat → List Value → Ledger → Prop) (h0 : R 0 [] [])
    (turn : ∀ i ys tl v I oI C oC D m₂ h tk (E' : Value → Shared → Prop), i < n → Above base tl → R i ys tl → P i v → LCg.NsObj oC m₂ → m₂ x = some v → Fr h₀ L h m → News h₀ L h ((I, oI) :: (C, oC) :: (D, LCg.lst ys) :: (tl ++ base)) → LCg.Off3 I C D (tl ++ base) → ((@Ne Nat I C) ∧ (@Ne Nat I D) ∧ (@Ne Nat C D)) →
      wpAny (model prog w) A (isTrue ct (compEnvC scope cl C env) (eval ct (compEnvC scope cl C env))) (fun ok s' => if ok = true then
        wpAny (model prog w) A (eval elt (compEnvC scope cl C env)) (LCg.CompEnd h₀ L m { s₁ with heap := h, toks := tk } I oI C oC D (LCg.lst ys) S (fun y nw' => Grow base R (i + 1) (ys ++ [y]) nw')) E' s'
        else LCg.CompEnd h₀ L m { s₁ with heap := h, toks := tk } I oI C oC D (LCg.lst ys) S (fun _ nw' => Grow base R (i + 1) ys nw') Value.none s') E' { s₁ with heap := h, toks := tk })
    (fin : ∀ g ys tl, Above base tl → R n ys tl → LCg.FinE h₀ L m { s₁ with heap := g } Q ys (tl ++ base)) : CompSrcWT prog w A h₀ L m env ct elt x scope cl Q xv s₁ := by
  refine ⟨base, S, P, n, F, N, I, hsz, hS, fun g => rest_indT (Grow base R) ?_ ?_ ⟨[], rfl, Above.nil, h0⟩⟩
  · rintro i ys nw v I oI C oC D m₂ h tk E' hi ⟨tl, rfl, ha, hr⟩ hP hC hx F' N' off ne
    exact turn i ys tl v I oI C oC D m₂ h tk E' hi ha hr hP hC hx F' N' off ne
  · rintro ys nw ⟨tl, rfl, ha, hr⟩
    exact fin g ys tl ha hr
end
/-! C3 -/
section
open PyProof.Rows.LCg
/-! a dict comprehension with one test, from ints to ints -/
section
variable {prog : Program} {w : World} {A : Around} {E : Value → Shared → Prop} {s : Shared} {h₀ : Heap} {L : Addr} {m : Str → Option Value} {env : Env}
theorem iobj_put {h : Heap} {D : Addr} {o : Obj} {M : List (Int × Int)} (e : h.get? D = some o) (g : IObj prog w o M) : ∃ kvs, h.DictOf (intKind prog w) D kvs ∧ kvs.length = M.length ∧ ∀ {h' : Heap} {k x : Int} {u : Tok}, h'.DictOf (intKind prog w) D (stored kvs k (.int x u)) → ∃ o', h'.get? D = some o' ∧ IObj prog w o' (put M k x) := by
  obtain ⟨kvs, hd, hf⟩ := g
  refine ⟨kvs, Heap.dictOf_iff.mpr ⟨o, e, hd⟩, (flat_of hf).1, fun {h' k x u} hd' => ?_⟩
  obtain ⟨o', e', hd''⟩ := Heap.dictOf_iff.mp hd'
  refine ⟨o', e', _, hd'', ?_⟩
  rw [← putD_mapD]
  exact FlatPairs.stored (fun a b => same_int a b) hf k (Flat.int x u)
noncomputable def DEnd (h₀ : Heap) (L : Addr) (m : Str → Option Value) (s₁ : Shared) (news : Ledger) (J : Prop) (s₂ : Shared) : Prop := ∃ h' tk, s₂ = { s₁ with heap := h', toks := tk } ∧ Fr h₀ L h' m ∧ News h₀ L h' news ∧ J
theorem dend {h' : Heap} {tk : Nat} {full news : Ledger} {J : Prop} (F : Fr h₀ L h' m) (N : News h₀ L h' full) (sub : ∀ p ∈ news, p ∈ full) (j : J) : DEnd h₀ L m s news J { s with heap := h', toks := tk } := ⟨h', tk, rfl, F, newsSub N sub, j⟩
noncomputable def CompRestD (prog : Program) (w : World) (A : Around) (h₀ : Heap) (L : Addr) (m : Str → Option Value) (env : Env) (ct kx vx : Expr) (x : Str) (scope : Scope) (cl : List (Str × Addr)) (s : Shared) (P : Nat → Value → Prop) (news : Ledger) (n : Nat) (Inv : Nat → List (Int × Int) → Prop) : Prop :=
  ∀ i M v I oI C oC D oD m₂ h tk (E' : Value → Shared → Prop), i < n → Inv i M → P i v → NsObj oC m₂ → m₂ x = some v → Fr h₀ L h m → News h₀ L h ((I, oI) :: (C, oC) :: (D, oD) :: news) → Off3 I C D news → ((@Ne Nat I C) ∧ (@Ne Nat I D) ∧ (@Ne Nat C D)) →
      wpAny (model prog w) A (isTrue ct (compEnvC scope cl C env) (eval ct (compEnvC scope cl C env))) (fun ok s' => if ok = true then
        wpAny (model prog w) A (eval kx (compEnvC scope cl C env)) (fun key s₂ => wpAny (model prog w) A (eval vx (compEnvC scope cl C env)) (fun y s₃ => ∃ k t a u, key = .int k t ∧ y = .int a u ∧ DEnd h₀ L m { s with heap := h, toks := tk } ((I, oI) :: (C, oC) :: (D, oD) :: news) (Inv (i + 1) (put M k a)) s₃) E' s₂) E' s'
        else DEnd h₀ L m { s with heap := h, toks := tk } ((I, oI) :: (C, oC) :: (D, oD) :: news) (Inv (i + 1) M) s') E' { s with heap := h, toks := tk }
theorem block_D {ct kx vx iter : Expr} {x : Str} {px : Pos} {scope : Scope} {cl : List (Str × Addr)} {pos : Pos} {s₂ : Shared} {I : Addr} {fp : List Addr} {n : Nat} {P : Nat → Value → Prop} {St : Nat → Heap → Prop} {S : Ledger → Prop} {news : Ledger} {Inv : Nat → List (Int × Int) → Prop}
    {RR : Value → Addr → Result → Shared → Prop}
    (W : Walks prog w A I fp [I] n P St) (hsz : n ≤ sizeLine) (hIo : ∀ i h, St i h → ∃ o, h.get? I = some o)
    (hSt : ∀ i h h' o nw, St i h → h.get? I = some o → h'.get? I = some o → (∀ b o, h₀.get? b = some o → h'.get? b = some o) → News h₀ L h' nw → S nw → St i h')
    (hcell : ∀ y ∈ scope.names, y.2 ≠ .cell) (hkind : scope.kind = .function) (hx : scope.names.lookup x = some .local) (hst : St 0 s₂.heap) (hfp : ∀ b ∈ fp, b < s₂.heap.objs.size)
    (hbig : h₀.NoLimit) (F : Fr h₀ L s₂.heap m) (N : News h₀ L s₂.heap news) (hIL : L ≠ I) (hI₀ : h₀.get? I = none) (off : ∀ p ∈ news, p.1 ≠ I) (hS : S news)
    (R : CompRestD prog w A h₀ L m env ct kx vx x scope cl s₂ P news n Inv) (h0 : Inv 0 []) (hlen : ∀ i M, Inv i M → M.length ≤ i)
    (hRR : ∀ D C h tk m' M oD, (D == sysModules) = false → Fr h₀ L h m → News h₀ L h ((D, oD) :: news) → IObj prog w oD M → Off1 D news → h.Ns C m' → h₀.get? C = none → h₀.get? D = none → C ≠ L → D ≠ L → C ≠ D → (∀ p ∈ news, p.1 ≠ C) → Inv n M → RR (.ref D) C (.ok .next) { s₂ with heap := h, toks := tk }) :
    wpAny (model prog w) A newDict (fun acc s₃ => wpAny (model prog w) A (newFunctionEnv scope env.globals cl [] env.qual none .none (some env)) (fun cenv s₄ =>
      codeAny (model prog w) A (.compStart (.DictComp kx vx [⟨.Name x px, iter, [ct], 0⟩] scope pos) 0 (.ref I) acc { cenv with scope := relabel scope env }) (RR acc cenv.locals) s₄) E s₃) E s₂ := by
  refine wpAny_newObj_type (wpAny_newFunctionEnv hcell (by intro y hy; simp at hy) (fun h₁ hns₁ hsb₁ => ?_) hkind)
  dsimp only at hns₁ hsb₁ ⊢
  generalize hH2 : s₂.heap.push { cls := .type "dict", dict := none, data := .dict #[] } = H2 at hns₁ hsb₁ ⊢
  have hnew : H2.DictOf (intKind prog w) s₂.heap.objs.size [] := hH2 ▸ Heap.DictOf.new s₂.heap
  have hC : H2.objs.size = s₂.heap.objs.size + 1 := by rw [← hH2, Heap.size_push]
  have hDC : s₂.heap.objs.size ≠ H2.objs.size := by rw [hC]; exact Nat.ne_of_lt (Nat.lt_succ_self _)
  have below : ∀ b, b < s₂.heap.objs.size → b ≠ H2.objs.size ∧ b ≠ s₂.heap.objs.size := fun b hb => ⟨by rw [hC]; exact Nat.ne_of_lt (Nat.lt_succ_of_lt hb), Nat.ne_of_lt hb⟩
  have hDf : s₂.heap.objs.size ∉ fp := fun hm => Nat.lt_irrefl _ (hfp _ hm)
  have hCf : H2.objs.size ∉ fp := fun hm => by have := hfp _ hm; rw [hC] at this; exact Nat.lt_irrefl _ (Nat.lt_of_succ_lt this)
  have hIf : I ∈ fp := W.sub I (List.mem_singleton.mpr rfl)
  have hIlt : I < s₂.heap.objs.size := hfp I hIf
  have old : ∀ b o, s₂.heap.get? b = some o → h₁.get? b = some o := fun b o e => hsb₁.extBut b o (below b (Heap.lt_size e)).1 (Heap.get?_push_of_some _ (hH2 ▸ Heap.get?_push_of_some _ e))
  have hacc : h₁.DictOf (intKind prog w) s₂.heap.objs.size [] := hnew.at fun o e => hsb₁.extBut _ _ hDC (Heap.get?_push_of_some _ e)
  have hst₁ : St 0 h₁ := W.frame _ _ _ hst fun b _ o e => old b o e
  have fresh : ∀ a, s₂.heap.objs.size ≤ a → s₂.heap.get? a = none := fun a ha => by
    cases e : s₂.heap.get? a with
    | none => rfl
    | some o' => exact absurd (Heap.lt_size e) (Nat.not_lt.mpr ha)
  have fresh₀ : ∀ a, s₂.heap.objs.size ≤ a → h₀.get? a = none := fun a ha => by
    cases e : h₀.get? a with
    | none => rfl
    | some o' => have := F.keep a o' e; rw [fresh a ha] at this; cases this
  have hD₀ : h₀.get? s₂.heap.objs.size = none := fresh₀ _ (Nat.le_refl _)
  have hC₀ : h₀.get? H2.objs.size = none := fresh₀ _ (by rw [hC]; exact Nat.le_succ _)
  have hLlt : L < s₂.heap.objs.size := F.ns.lt
  have hDL : s₂.heap.objs.size ≠ L := Ne.symm (below L hLlt).2
  have hCL : H2.objs.size ≠ L := Ne.symm (below L hLlt).1
  have hCI : I ≠ H2.objs.size := (below I hIlt).1
  have hDI : I ≠ s₂.heap.objs.size := (below I hIlt).2
  have off3 : Off3 I H2.objs.size s₂.heap.objs.size news := Off3.of fun p hp => ⟨off p hp, (below _ (Heap.lt_size (N p hp).1)).1, (below _ (Heap.lt_size (N p hp).1)).2⟩
  have offm := off3.mem
  obtain ⟨o₁, ho₁, hd₁⟩ := Heap.dictOf_iff.mp hacc
  have loop : ∀ s₃ : Shared, s₃ = { s₂ with heap := h₁, toks := s₂.toks + ([] : List (Str × Value)).length } →
      codeAny (model prog w) A (.compLoop (.DictComp kx vx [⟨.Name x px, iter, [ct], 0⟩] scope pos) 0 (.ref I) (.ref s₂.heap.objs.size) (compEnvC scope cl H2.objs.size env))
        (RR (.ref s₂.heap.objs.size) H2.objs.size) s₃ := by
    rintro s₃ rfl
    refine codeAny_compLoop_testsD
      (fun k s' => ∃ h' tk i M m' oD, s' = { s₂ with heap := h', toks := tk } ∧ i ≤ n ∧ k = n + 1 - i ∧ St i h' ∧ Fr h₀ L h' m ∧ h'.Ns H2.objs.size m' ∧ News h₀ L h' ((s₂.heap.objs.size, oD) :: news) ∧ IObj prog w oD M ∧ Inv i M) ?_ (n + 1)
      ⟨h₁, _, 0, [], _, o₁, rfl, Nat.zero_le _, rfl, hst₁, F.keeps old, hns₁, fun p hp => ?_, ⟨[], hd₁, .nil⟩, h0⟩
    · rintro k s' ⟨h', tk, i, M, m', oD, rfl, hi, rfl, hst', F', hn', N', hM, hv⟩
      by_cases hlt : i < n
      · refine W.item i _ _ _ hlt hst' fun v h₂ tk₂ hPv hst₂ hk₂ => ?_
        refine wpAny_assign_Name (wpAny_storeName_local (lookup_relabel_local hx) (hn'.at' fun o e => hk₂ _ o (by simpa using Ne.symm hCI) e) (fun h₃ hn₃ hs₃ => ?_) (by simp [compEnvC, relabel, hkind]))
        refine wpAny_tests_one ?_
        have hst₃ : St (i + 1) h₃ := W.frame _ _ _ hst₂ fun b hb o e => hs₃.extBut b o (fun q => hCf (by have q' : b = H2.objs.size := q; rw [← q']; exact hb)) e
        obtain ⟨oI, heI⟩ := hIo _ _ hst₃
        obtain ⟨oC, heC, hoC⟩ := ns_obj hn₃
        have F₃ : Fr h₀ L h₃ m := (fr_but F' hk₂ hIL hI₀).change hs₃ hCL hC₀
        have N₂ : News h₀ L h₂ ((s₂.heap.objs.size, oD) :: news) := news_but N' hk₂ fun p hp => by
          rcases List.mem_cons.mp hp with rfl | hp
          · exact Ne.symm hDI
          · exact (offm p hp).1
        have N₃ : News h₀ L h₃ ((I, oI) :: (H2.objs.size, oC) :: (s₂.heap.objs.size, oD) :: news) := fun p hp => by
          rcases List.mem_cons.mp hp with rfl | hp
          · exact ⟨heI, Ne.symm hIL, hI₀⟩
          · rcases List.mem_cons.mp hp with rfl | hp
            · exact ⟨heC, hCL, hC₀⟩
            · have z := N₂ p hp
              refine ⟨hs₃.extBut _ _ ?_ z.1, z.2⟩
              rcases List.mem_cons.mp hp with rfl | hp
              · exact hDC
              · exact (offm p hp).2.1
        refine wpAny_mono (R i M v I oI H2.objs.size oC s₂.heap.objs.size oD _ h₃ _ _ hlt hv hPv hoC (by simp) F₃ N₃ off3 ⟨hCI, hDI, Ne.symm hDC⟩) (fun ok s₄ h₄ => ?_) fun _ _ e => e
        cases ok with
        | true =>
          simp only [if_true] at h₄ ⊢
          refine wpAny_mono h₄ (fun key s₅ h₅ => wpAny_mono h₅ (fun y s₆ h₆ => ?_) fun _ _ e => e) fun _ _ e => e
          obtain ⟨kk, t, a, u, rfl, rfl, h₄, tk₄, rfl, F₄, N₄, R₄⟩ := h₆
          have zI := (N₄ (I, oI) List.mem_cons_self).1
          have zC := (N₄ (H2.objs.size, oC) (List.mem_cons_of_mem _ List.mem_cons_self)).1
          have zD := (N₄ (s₂.heap.objs.size, oD) (List.mem_cons_of_mem _ (List.mem_cons_of_mem _ List.mem_cons_self))).1
          have N₄' : News h₀ L h₄ news := fun p hp => N₄ p (List.mem_cons_of_mem _ (List.mem_cons_of_mem _ (List.mem_cons_of_mem _ hp)))
          have hst₄ : St (i + 1) h₄ := hSt _ _ _ _ _ hst₃ heI zI F₄.keep N₄' hS
          obtain ⟨kvs, hkd, hkl, hput⟩ := iobj_put zD hM
          have hl1 := hlen _ _ hv
          refine wpAny_dictSet_pairs (knd := intKind prog w) (k := kk) (kvs := kvs) (intKind_is _ _ _ _) hkd (fun h₅ hd₅ hs₅ => ?_) (by omega)
          obtain ⟨o', e', hM'⟩ := hput hd₅
          refine ⟨n + 1 - (i + 1), by omega, h₅, _, i + 1, put M kk a, _, o', rfl, hlt, rfl, W.frame _ _ _ hst₄ fun b hb o e => hs₅.extBut b o (fun q => hDf (q ▸ hb)) e, F₄.change hs₅ hDL hD₀,
            (hoC.ns zC).sameBut hs₅ (Ne.symm hDC), fun p hp => ?_, hM', R₄⟩
          rcases List.mem_cons.mp hp with rfl | hp
          · exact ⟨e', hDL, hD₀⟩
          · exact ⟨hs₅.extBut _ _ (offm p hp).2.2 (N₄' p hp).1, (N₄' p hp).2⟩
        | false =>
          simp only [Bool.false_eq_true, if_false] at h₄ ⊢
          obtain ⟨h₅, tk₄, rfl, F₄, N₄, R₄⟩ := h₄
          have zI := (N₄ (I, oI) List.mem_cons_self).1
          have zC := (N₄ (H2.objs.size, oC) (List.mem_cons_of_mem _ List.mem_cons_self)).1
          have N₄' : News h₀ L h₅ news := fun p hp => N₄ p (List.mem_cons_of_mem _ (List.mem_cons_of_mem _ (List.mem_cons_of_mem _ hp)))
          have hst₄ : St (i + 1) h₅ := hSt _ _ _ _ _ hst₃ heI zI F₄.keep N₄' hS
          refine ⟨n + 1 - (i + 1), by omega, h₅, tk₄, i + 1, M, _, oD, rfl, hlt, rfl, hst₄, F₄, hoC.ns zC, fun p hp => ?_, hM, R₄⟩
          rcases List.mem_cons.mp hp with rfl | hp
          · exact N₄ _ (List.mem_cons_of_mem _ (List.mem_cons_of_mem _ List.mem_cons_self))
          · exact N₄' p hp
      · obtain rfl : i = n := Nat.le_antisymm hi (Nat.not_lt.mp hlt)
        refine W.done _ _ _ hst' fun h₂ tk₂ hk₂ => ?_
        exact hRR _ _ h₂ tk₂ _ M oD (F.notModules (modules_low hbig)) (fr_but F' hk₂ hIL hI₀) (news_but N' hk₂ fun p hp => by
          rcases List.mem_cons.mp hp with rfl | hp
          · exact Ne.symm hDI
          · exact (offm p hp).1) hM off3.one (hn'.at' fun o e => hk₂ _ o (by simpa using Ne.symm hCI) e) hC₀ hD₀ hCL hDL (Ne.symm hDC) (fun p hp => (offm p hp).2.1) hv
    · rcases List.mem_cons.mp hp with rfl | hp
      · exact ⟨ho₁, hDL, hD₀⟩
      · exact ⟨old _ _ (N p hp).1, (N p hp).2⟩
  exact codeAny_compStart_dict (loop _ rfl) (W.self 0 _ _ _ hst₁ (loop _ rfl))
theorem put_length (M : List (Int × Int)) (k v : Int) : (put M k v).length ≤ M.length + 1 := by unfold put; split <;> simp
noncomputable def FinD (prog : Program) (w : World) (h₀ : Heap) (L : Addr) (m : Str → Option Value) (s : Shared) (Q : Value → Shared → Prop) (M : List (Int × Int)) (news : Ledger) : Prop :=
  ∀ D oD h tk, IObj prog w oD M → (D == sysModules) = false → Fr h₀ L h m → News h₀ L h ((D, oD) :: news) → (∀ q ∈ news, q.1 ≠ D) → Q (.ref D) { s with heap := h, toks := tk }
noncomputable def CompSrcD (prog : Program) (w : World) (A : Around) (h₀ : Heap) (L : Addr) (m : Str → Option Value) (env : Env) (ct kx vx : Expr) (x : Str) (scope : Scope) (cl : List (Str × Addr)) (Q : Value → Shared → Prop) (xv : Value) (s₁ : Shared) : Prop :=
  ∃ news S P n Inv, Fr h₀ L s₁.heap m ∧ News h₀ L s₁.heap news ∧ h₀.NoLimit ∧ Iters prog w A h₀ L S P n xv s₁ ∧ n ≤ sizeLine ∧ S news ∧ Inv 0 [] ∧ (∀ i M, Inv i M → M.length ≤ i) ∧
    (∀ g, CompRestD prog w A h₀ L m env ct kx vx x scope cl { s₁ with heap := g } P news n Inv) ∧ (∀ g M, Inv n M → FinD prog w h₀ L m { s₁ with heap := g } Q M news)
theorem DictComp_WT {ct kx vx iter : Expr} {x : Str} {px : Pos} {scope : Scope} {cl : List (Str × Addr)} {pos : Pos} {Q : Value → Shared → Prop} (F₀ : Fr h₀ L s.heap m)
    (hclos : closureFor scope env = pure cl) (hcell : ∀ y ∈ scope.names, y.2 ≠ .cell) (hkind : scope.kind = .function)
    (hnames : ∀ y ∈ scope.names, y.2 = .local → scope.names.lookup y.1 = some .local) (hx : scope.names.lookup x = some .local)
    (h : wpAny (model prog w) A (eval iter env) (CompSrcD prog w A h₀ L m env ct kx vx x scope cl Q) E s)
    (hs : ∀ x, foldedSetIterable iter env x = pure x := by intro _; rfl) :
    wpAny (model prog w) A (eval (.DictComp kx vx [⟨.Name x px, iter, [ct], 0⟩] scope pos) env) Q E s := by
  let _ := F₀
  rw [arm_eval_DictComp]
  refine wpAny_comprehension_free (use := none) rfl hs hclos hkind hnames (wpAny_mono h (fun xv s₁ h₁ => ?_) fun _ _ e => e)
  obtain ⟨news, S, P, n, Inv, F, N, lo, I, hsz, hS, h0, hlen, R, Fin⟩ := h₁
  refine I _ _ fun oI fp St W hIo hSt st hfp => ?_
  have up : ∀ b o, s₁.heap.get? b = some o → (s₁.heap.push oI).get? b = some o := fun b o e => Heap.get?_push_of_some _ e
  refine block_D W hsz hIo hSt hcell hkind hx st hfp lo (F.keeps up) (N.grown up) (Nat.ne_of_lt F.ns.lt) (next_is_new F) (fun p hp => Nat.ne_of_lt (Heap.lt_size (N p hp).1)) hS (R _) h0 hlen ?_
  intro D C h tk m' M oD lo F' N' hM o1 hn hC₀ hD₀ hCL hDL hCD offC fin
  refine ⟨m', hn, fun h'' hs'' => Fin (s₁.heap.push oI) M fin D oD h'' tk hM lo (F'.change hs'' hCL hC₀) (fun p hp => ?_) (off1_ne o1)⟩
  refine ⟨hs''.extBut _ _ ?_ (N' p hp).1, (N' p hp).2⟩
  rcases List.mem_cons.mp hp with rfl | hp
  · exact Ne.symm hCD
  · exact offC p hp
theorem src_dict {ct kx vx : Expr} {x : Str} {scope : Scope} {cl : List (Str × Addr)} {Q : Value → Shared → Prop} {xv : Value} {s₁ : Shared} {base : Ledger} {S : Ledger → Prop} {P : Nat → Value → Prop} {n : Nat} (F : Fr h₀ L s₁.heap m) (N : News h₀ L s₁.heap base) (lo : h₀.NoLimit) (I : Iters prog w A h₀ L S P n xv s₁) (hsz : n ≤ sizeLine) (hS : S base) (f : Nat → List (Int × Int)) (h0 : f 0 = []) (hf : ∀ i, i < n → (∃ k v, f (i + 1) = put (f i) k v) ∨ f (i + 1) = f i)
    (turn : ∀ i v I oI C oC D oD m₂ h tk (E' : Value → Shared → Prop), i < n → P i v → NsObj oC m₂ → m₂ x = some v → Fr h₀ L h m → News h₀ L h ((I, oI) :: (C, oC) :: (D, oD) :: base) → Off3 I C D base → ((@Ne Nat I C) ∧ (@Ne Nat I D) ∧ (@Ne Nat C D)) →
      wpAny (model prog w) A (isTrue ct (compEnvC scope cl C env) (eval ct (compEnvC scope cl C env))) (fun ok s' => if ok = true then
        wpAny (model prog w) A (eval kx (compEnvC scope cl C env)) (fun key s₂ => wpAny (model prog w) A (eval vx (compEnvC scope cl C env)) (fun y s₃ => ∃ k t a u, key = .int k t ∧ y = .int a u ∧ DEnd h₀ L m { s₁ with heap := h, toks := tk } ((I, oI) :: (C, oC) :: (D, oD) :: base) (f (i + 1) = put (f i) k a) s₃) E' s₂) E' s'
        else DEnd h₀ L m { s₁ with heap := h, toks := tk } ((I, oI) :: (C, oC) :: (D, oD) :: base) (f (i + 1) = f i) s') E' { s₁ with heap := h, toks := tk })
    (fin : ∀ g, FinD prog w h₀ L m { s₁ with heap := g } Q (f n) base) : CompSrcD prog w A h₀ L m env ct kx vx x scope cl Q xv s₁ := by
  have hlen : ∀ i, i ≤ n → (f i).length ≤ i := by
    intro i
    induction i with
    | zero => intro _; rw [h0]; exact Nat.le_refl _
    | succ i ih =>
      intro hi
      have := ih (by omega)
      rcases hf i (by omega) with ⟨k, v, e⟩ | e
      · rw [e]; have := put_length (f i) k v; omega
      · rw [e]; omega
  refine ⟨base, S, P, n, fun i M => i ≤ n ∧ M = f i, F, N, lo, I, hsz, hS, ⟨Nat.zero_le _, h0.symm⟩, fun i M ⟨hi, e⟩ => e ▸ hlen i hi, fun g => ?_, fun g M ⟨_, e⟩ => e ▸ fin g⟩
  intro i M v I oI C oC D oD m₂ h tk E' hi ⟨_, e⟩ hP hC hx F' N' off ne
  subst e
  refine wpAny_mono (turn i v I oI C oC D oD m₂ h tk E' hi hP hC hx F' N' off ne) (fun ok s' hq => ?_) fun _ _ e => e
  cases ok with
  | true =>
    simp only [if_true] at hq ⊢
    refine wpAny_mono hq (fun key s₂ hq => wpAny_mono hq (fun y s₃ hq => ?_) fun _ _ e => e) fun _ _ e => e
    obtain ⟨k, t, a, u, e1, e2, h', tk', e3, F2, N2, j⟩ := hq
    exact ⟨k, t, a, u, e1, e2, h', tk', e3, F2, N2, by omega, j.symm⟩
  | false =>
    simp only [Bool.false_eq_true, if_false] at hq ⊢
    obtain ⟨h', tk', e3, F2, N2, j⟩ := hq
    exact ⟨h', tk', e3, F2, N2, by omega, j.symm⟩
end
end
/-! C4 -/
section
open PyProof.Rows.LCg
/-! a for loop over such a source, with a state of its own -/
noncomputable def FPost {σ : Type} (h₀ : Heap) (L : Addr) (s : Shared) (x : Str) (Led : σ → Ledger) (ps : σ → List (Str × Value)) (stored : List Str) (m₀ : Str → Option Value) (J : σ → Prop) (Q : Flow → Shared → Prop) (I : Addr) (oI : Obj) (f : Flow) (s₂ : Shared) : Prop :=
  match f with
  | .ret v => Q (.ret v) s₂
  | .brk => Q .next s₂
  | _ => ∃ (c : σ) (h' : Heap) (tk : Nat) (m' : Str → Option Value), s₂ = { s with heap := h', toks := tk } ∧ Fr h₀ L h' m' ∧ News h₀ L h' ((I, oI) :: Led c) ∧ (∀ p ∈ Led c, p.1 ≠ I) ∧ (∀ p ∈ ps c, m' p.1 = some p.2) ∧ (∀ z, z ≠ x → (∀ p ∈ ps c, z ≠ p.1) → stored.contains z = false → m' z = m₀ z) ∧ J c
theorem fpost_next {σ : Type} {h₀ : Heap} {L I : Addr} {oI : Obj} {s : Shared} {x : Str} {Led : σ → Ledger} {ps : σ → List (Str × Value)} {stored : List Str} {m₀ m' : Str → Option Value} {J : σ → Prop} {Q : Flow → Shared → Prop} {h' : Heap} {tk : Nat} {full : Ledger} (c : σ)
    (F : Fr h₀ L h' m') (N : News h₀ L h' full) (sub : ∀ p ∈ (I, oI) :: Led c, p ∈ full) (off : ∀ p ∈ Led c, p.1 ≠ I) (hk : ∀ p ∈ ps c, m' p.1 = some p.2) (hr : ∀ z, z ≠ x → (∀ p ∈ ps c, z ≠ p.1) → stored.contains z = false → m' z = m₀ z) (j : J c) :
    FPost h₀ L s x Led ps stored m₀ J Q I oI .next { s with heap := h', toks := tk } := ⟨c, h', tk, m', rfl, F, newsSub N sub, off, hk, hr, j⟩
section
variable {prog : Program} {w : World} {A : Around} {s : Shared} {env : Env} {h₀ : Heap}
theorem codeAny_for {σ : Type} {R : Result → Shared → Prop} {E : Value → Shared → Prop} {Q : Flow → Shared → Prop} {x : Str} {px : Pos} {body : List Stmt} {I : Addr} {fp : List Addr} {n : Nat} {P : Nat → Value → Prop} {St : Nat → Heap → Prop} {S : Ledger → Prop} {m₀ : Str → Option Value}
    (Led : σ → Ledger) (ps : σ → List (Str × Value)) (stored : List Str) (Inv : Nat → σ → Prop) (c₀ : σ)
    (W : Walks prog w A I fp [I] n P St) (hIo : ∀ i h, St i h → ∃ o, h.get? I = some o)
    (hSt : ∀ i h h' o nw, St i h → h.get? I = some o → h'.get? I = some o → (∀ b o, h₀.get? b = some o → h'.get? b = some o) → News h₀ env.locals h' nw → S nw → St i h')
    (hx : env.kindOf x = some .local) (hp : (env.scope.kind == .class || (env.scope.kind == .module && env.locals != env.globals)) = false)
    (hIL : env.locals ≠ I) (hI₀ : h₀.get? I = none) (hnw : ∀ p ∈ Led c₀, p.1 ≠ I) (hS : ∀ i c, Inv i c → S (Led c))
    (hst : St 0 s.heap) (F : Fr h₀ env.locals s.heap m₀) (N : News h₀ env.locals s.heap (Led c₀)) (hk : ∀ p ∈ ps c₀, m₀ p.1 = some p.2) (h0 : Inv 0 c₀)
    (turn : ∀ i c v (u : Str → Option Value) h tk oI, i < n → Inv i c → P i v → Fr h₀ env.locals h (fun y => if y = x then some v else kstB (fun z => if stored.contains z then u z else m₀ z) (ps c) y) → News h₀ env.locals h ((I, oI) :: Led c) → (∀ p ∈ Led c, p.1 ≠ I) →
      wpAny (model prog w) A (execs body env) (FPost h₀ env.locals { s with heap := h, toks := tk } x Led ps stored m₀ (Inv (i + 1)) Q I oI) E { s with heap := h, toks := tk })
    (hRet : ∀ f s', Q f s' → R (.ok f) s') (hE : ∀ e s', E e s' → notedBy (model prog w) A env (fun e s' => R (.error e) s') e s')
    (hR : ∀ c (u : Str → Option Value) h' tk, Inv n c → Fr h₀ env.locals h' (fun y => if y = x then u y else kstB (fun z => if stored.contains z then u z else m₀ z) (ps c) y) → News h₀ env.locals h' (Led c) → Q .next { s with heap := h', toks := tk }) :
    codeAny (model prog w) A (.forLoop (.Name x px) (.ref I) body [] env) R s := by
  refine codeAny_forLoop
    (fun k s' => ∃ h' tk m' c i, s' = { s with heap := h', toks := tk } ∧ St i h' ∧ Fr h₀ env.locals h' m' ∧ News h₀ env.locals h' (Led c) ∧ (∀ p ∈ Led c, p.1 ≠ I) ∧ (∀ p ∈ ps c, m' p.1 = some p.2) ∧ (∀ z, z ≠ x → (∀ p ∈ ps c, z ≠ p.1) → stored.contains z = false → m' z = m₀ z) ∧ Inv i c ∧ i ≤ n ∧ k = n + 1 - i) ?_ (n + 1)
    ⟨s.heap, s.toks, m₀, c₀, 0, rfl, hst, F, N, hnw, hk, fun _ _ _ _ => rfl, h0, Nat.zero_le _, rfl⟩
  rintro k s' ⟨h', tk, m', c, i, rfl, hst', F', N', hnw', h1, h2, hJ, hi, rfl⟩
  have next : ∀ h₁ : Heap, (∀ b o, b ∉ [I] → h'.get? b = some o → h₁.get? b = some o) → Fr h₀ env.locals h₁ m' ∧ News h₀ env.locals h₁ (Led c) := fun h₁ hk₁ => ⟨fr_but F' hk₁ hIL hI₀, news_but N' hk₁ hnw'⟩
  by_cases hlt : i < n
  · refine W.item i _ _ _ hlt hst' fun v h₁ tk₁ hP hst₁ hk₁ => ?_
    obtain ⟨F₁, N₁⟩ := next h₁ hk₁
    obtain ⟨oI, heI⟩ := hIo _ _ hst₁
    refine wpAny_assign_Name (wpAny_storeName_local hx F₁.ns (fun h₂ hn₂ hs₂ => ?_) hp)
    have F₂ := F₁.set hn₂ hs₂
    have eI : h₂.get? I = some oI := (hs₂.2 I (Ne.symm hIL)).trans heI
    have N₂ := N₁.set hs₂
    have hst₂ : St (i + 1) h₂ := hSt _ _ _ _ _ hst₁ heI eI F₂.keep N₂ (hS _ _ hJ)
    have N₃ : News h₀ env.locals h₂ ((I, oI) :: Led c) := fun p hp => by
      rcases List.mem_cons.mp hp with rfl | hp
      · exact ⟨eI, Ne.symm hIL, hI₀⟩
      · exact N₂ p hp
    refine wpAny_mono (turn i c v m' h₂ _ oI hlt hJ hP (kst_fr h1 h2 F₂) N₃ hnw') (fun f s₃ h₃ => ?_) hE
    have up : (∃ (c : σ) (h' : Heap) (tk : Nat) (m' : Str → Option Value), s₃ = { s with heap := h', toks := tk } ∧ Fr h₀ env.locals h' m' ∧ News h₀ env.locals h' ((I, oI) :: Led c) ∧ (∀ p ∈ Led c, p.1 ≠ I) ∧ (∀ p ∈ ps c, m' p.1 = some p.2) ∧ (∀ z, z ≠ x → (∀ p ∈ ps c, z ≠ p.1) → stored.contains z = false → m' z = m₀ z) ∧ Inv (i + 1) c) →
        ∃ m, m < n + 1 - i ∧ ∃ h' tk m' c i, s₃ = { s with heap := h', toks := tk } ∧ St i h' ∧ Fr h₀ env.locals h' m' ∧ News h₀ env.locals h' (Led c) ∧ (∀ p ∈ Led c, p.1 ≠ I) ∧ (∀ p ∈ ps c, m' p.1 = some p.2) ∧ (∀ z, z ≠ x → (∀ p ∈ ps c, z ≠ p.1) → stored.contains z = false → m' z = m₀ z) ∧ Inv i c ∧ i ≤ n ∧ m = n + 1 - i := by
      rintro ⟨c', h₄, tk₄, m₄, rfl, F₄, N₄, off₄, hk₄, hr₄, hj₄⟩
      have N₅ : News h₀ env.locals h₄ (Led c') := fun p hp => N₄ p (.tail _ hp)
      exact ⟨n + 1 - (i + 1), by omega, h₄, tk₄, m₄, c', i + 1, rfl, hSt _ _ _ _ _ hst₂ eI (N₄ _ (.head _)).1 F₄.keep N₅ (hS _ _ hj₄), F₄, N₅, off₄, hk₄, hr₄, hj₄, hlt, rfl⟩
    cases f with
    | ret v => exact hRet _ _ h₃
    | brk => exact hRet _ _ h₃
    | next => exact up h₃
    | cont => exact up h₃
  · have hin : i = n := by omega
    subst hin
    refine W.done _ _ _ hst' fun h₁ tk₁ hk₁ => wpAny_execs_nil ?_
    obtain ⟨F₁, N₁⟩ := next h₁ hk₁
    exact hRet _ _ (hR c m' h₁ tk₁ hJ (kst_frOut h1 h2 F₁) N₁)
noncomputable def ForSrc (prog : Program) (w : World) (A : Around) (h₀ : Heap) (env : Env) (x : Str) (body : List Stmt) (Q : Flow → Shared → Prop) (E : Value → Shared → Prop) (xv : Value) (s₁ : Shared) : Prop :=
  ∃ (σ : Type) (Led : σ → Ledger) (ps : σ → List (Str × Value)) (stored : List Str) (m₀ : Str → Option Value) (Inv : Nat → σ → Prop) (c₀ : σ) (S : Ledger → Prop) (P : Nat → Value → Prop) (n : Nat),
    Fr h₀ env.locals s₁.heap m₀ ∧ News h₀ env.locals s₁.heap (Led c₀) ∧ Iters prog w A h₀ env.locals S P n xv s₁ ∧ (∀ i c, Inv i c → S (Led c)) ∧ (∀ p ∈ ps c₀, m₀ p.1 = some p.2) ∧ Inv 0 c₀ ∧
    (∀ i c v (u : Str → Option Value) h tk I oI, i < n → Inv i c → P i v → Fr h₀ env.locals h (fun y => if y = x then some v else kstB (fun z => if stored.contains z then u z else m₀ z) (ps c) y) → News h₀ env.locals h ((I, oI) :: Led c) → (∀ p ∈ Led c, p.1 ≠ I) →
      wpAny (model prog w) A (execs body env) (FPost h₀ env.locals { s₁ with heap := h, toks := tk } x Led ps stored m₀ (Inv (i + 1)) Q I oI) E { s₁ with heap := h, toks := tk }) ∧
    (∀ c (u : Str → Option Value) h' tk, Inv n c → Fr h₀ env.locals h' (fun y => if y = x then u y else kstB (fun z => if stored.contains z then u z else m₀ z) (ps c) y) → News h₀ env.locals h' (Led c) → Q .next { s₁ with heap := h', toks := tk })
theorem ForSrc.of {σ : Type} {body : List Stmt} {x : Str} {Q : Flow → Shared → Prop} {E : Value → Shared → Prop} {xv : Value} {s₁ : Shared} {m₀ : Str → Option Value} {S : Ledger → Prop} {P : Nat → Value → Prop} {n : Nat} (Led : σ → Ledger) (ps : σ → List (Str × Value)) (stored : List Str) (Inv : Nat → σ → Prop) (c₀ : σ)
    (F : Fr h₀ env.locals s₁.heap m₀) (N : News h₀ env.locals s₁.heap (Led c₀)) (I : Iters prog w A h₀ env.locals S P n xv s₁) (hS : ∀ i c, Inv i c → S (Led c)) (hk : ∀ p ∈ ps c₀, m₀ p.1 = some p.2) (h0 : Inv 0 c₀)
    (turn : ∀ i c v (u : Str → Option Value) h tk I oI, i < n → Inv i c → P i v → Fr h₀ env.locals h (fun y => if y = x then some v else kstB (fun z => if stored.contains z then u z else m₀ z) (ps c) y) → News h₀ env.locals h ((I, oI) :: Led c) → (∀ p ∈ Led c, p.1 ≠ I) →
      wpAny (model prog w) A (execs body env) (FPost h₀ env.locals { s₁ with heap := h, toks := tk } x Led ps stored m₀ (Inv (i + 1)) Q I oI) E { s₁ with heap := h, toks := tk })
    (done : ∀ c (u : Str → Option Value) h' tk, Inv n c → Fr h₀ env.locals h' (fun y => if y = x then u y else kstB (fun z => if stored.contains z then u z else m₀ z) (ps c) y) → News h₀ env.locals h' (Led c) → Q .next { s₁ with heap := h', toks := tk }) :
    ForSrc prog w A h₀ env x body Q E xv s₁ := ⟨σ, Led, ps, stored, m₀, Inv, c₀, S, P, n, F, N, I, hS, hk, h0, turn, done⟩
theorem For_W {E : Value → Shared → Prop} {Q : Flow → Shared → Prop} {x : Str} {px pos : Pos} {iter : Expr} {body : List Stmt} {L : Addr} {m : Str → Option Value} (F₀ : Fr h₀ L s.heap m) (hx : env.kindOf x = some .local)
    (hp : (env.scope.kind == .class || (env.scope.kind == .module && env.locals != env.globals)) = false)
    (h : wpAny (model prog w) A (eval iter env) (ForSrc prog w A h₀ env x body Q E) E s)
    (hs : ∀ x, foldedSetIterable iter env x = pure x := by intro _; rfl)
    (hE : PassesOwn (model prog w) A env E := by passes_own) :
    wpAny (model prog w) A (exec (.For (.Name x px) iter body [] pos) env) Q E s := by
  refine wpAny_For (wpAny_mono h (fun xv s₁ h₁ => ?_) fun _ _ e => e) hs
  obtain ⟨σ, Led, ps, stored, m₀, Inv, c₀, S, P, n, F, N, I, hS, hk, h0, turn, done⟩ := h₁
  refine I _ _ fun oI fp St W hIo hSt st hfp => ?_
  have up : ∀ b o, s₁.heap.get? b = some o → (s₁.heap.push oI).get? b = some o := fun b o e => Heap.get?_push_of_some _ e
  exact codeAny_for (R := fun r s' => match r with | .ok f => Q f s' | .error e => cameBackBy (model prog w) A env E e s') (E := E) (Q := Q) Led ps stored Inv c₀ W hIo hSt hx hp (Nat.ne_of_lt F.ns.lt) (next_is_new F) (fun p hp => Nat.ne_of_lt (Heap.lt_size (N p hp).1)) hS st (F.keeps up) (N.grown up) hk h0
    (fun i c v u h tk oI hi hc hP F' N' off => turn i c v u h tk _ oI hi hc hP F' N' off) (fun _ _ q => q) hE done
end
noncomputable def Hold (P : Prop) : Prop := P
theorem Hold.of {P : Prop} (h : Hold P) : P := h
theorem Hold.to {P : Prop} (h : P) : Hold P := h
theorem reg14 : True := by
  k_with "FORW" => (k_here; k_dflt (refine' For_W ?zF ?zk1 ?zk2 ?_; (case zF => k_asm); (case zk1 => exact rfl); (case zk2 => exact rfl)))
  k_with "exec For Name Name cons nil" => walk_at "FORW"
  k_with "exec For Name Attribute cons nil" => walk_at "FORW"
  k_with "exec For Name Call cons nil" => walk_at "FORW"
  k_with "exec While Compare cons nil" => refine Hold.of ?_
  trivial
end
/-! C5 -/
section
open PyProof.Rows.LCg
theorem compTurn_two0 (elt t1 i1 t2 i2 : Expr) (scope : Scope) (pos : Pos) (it acc : Value) (env : Env) :
    compTurn (.ListComp elt [⟨t1, i1, [], 0⟩, ⟨t2, i2, [], 0⟩] scope pos) 0 it acc env = (standAt i1.pos >>= fun _ => pyNext it >>= fun r => match r with
      | none => pure (.done .next)
      | some v => letOwnedTupleGo t1 it v >>= fun _ => assign t1 env v >>= fun _ =>
        eval i2 env >>= fun x => standAt i2.pos >>= fun _ => foldedSetIterable i2 env x >>= fun x => (holding [x] (pyIter x)) >>= fun j => runOwn (.compStart (.ListComp elt [⟨t1, i1, [], 0⟩, ⟨t2, i2, [], 0⟩] scope pos) 1 j acc env) env >>= fun _ =>
          again (.compLoop (.ListComp elt [⟨t1, i1, [], 0⟩, ⟨t2, i2, [], 0⟩] scope pos) 0 it acc env)) := by rfl
theorem compTurn_two1 (elt t1 i1 t2 i2 : Expr) (scope : Scope) (pos : Pos) (it acc : Value) (env : Env) :
    compTurn (.ListComp elt [⟨t1, i1, [], 0⟩, ⟨t2, i2, [], 0⟩] scope pos) 1 it acc env = (standAt i2.pos >>= fun _ => pyNext it >>= fun r => match r with
      | none => pure (.done .next)
      | some v => letOwnedTupleGo t2 it v >>= fun _ => assign t2 env v >>= fun _ =>
        (eval elt env >>= fun x => call (.builtin "list.append") [acc, x] >>= fun _ => pure ()) >>= fun _ =>
          again (.compLoop (.ListComp elt [⟨t1, i1, [], 0⟩, ⟨t2, i2, [], 0⟩] scope pos) 1 it acc env)) := by rfl
section
variable {prog : Program} {w : World} {A : Around} {E : Value → Shared → Prop} {R : Result → Shared → Prop} {s : Shared} {h₀ : Heap} {L : Addr} {m : Str → Option Value} {env : Env}
theorem two_inner {t1 i1 i2 : Expr} {y : Str} {py qy : Pos} {scope : Scope} {cl : List (Str × Addr)} {pos : Pos} {J C D r : Addr} {its : Array Value} {ys : List Value} {m' : Str → Option Value}
    (hh : A.handled = none) (hkind : scope.kind = .function) (hy : scope.names.lookup y = some .local) (hdb : (y == ("__debug__" : Str)) = false)
    (hit : s.heap.IsListIter J r 0) (hl : s.heap.IsList r its) (hD : s.heap.get? D = some (lst ys)) (hn : s.heap.Ns C m') (jc : J ≠ C) (jd : J ≠ D) (cd : C ≠ D) (rj : r ≠ J) (rc : r ≠ C) (rd : r ≠ D) (hsz : ys.length + its.size ≤ sizeLine)
    (hR : ∀ h' tk m'', (∀ b o, b ≠ C → b ≠ J → b ≠ D → s.heap.get? b = some o → h'.get? b = some o) → h'.get? D = some (lst (ys ++ its.toList)) → h'.Ns C m'' → R (.ok .next) { s with heap := h', toks := tk }) :
    codeAny (model prog w) A (.compLoop (.ListComp (.Name y py) [⟨t1, i1, [], 0⟩, ⟨.Name y qy, i2, [], 0⟩] scope pos) 1 (.ref J) (.ref D) (compEnvC scope cl C env)) R s := by
  refine codeAny_loop rfl (fun k s' => ∃ h' tk m'' i, s' = { s with heap := h', toks := tk } ∧ h'.IsListIter J r i ∧ h'.IsList r its ∧ h'.get? D = some (lst (ys ++ its.toList.take i)) ∧ h'.Ns C m'' ∧ i ≤ its.size ∧ k = its.size + 1 - i ∧ ∀ b o, b ≠ C → b ≠ J → b ≠ D → s.heap.get? b = some o → h'.get? b = some o) (fun n s' hI => ?_) (its.size + 1)
    ⟨s.heap, s.toks, m', 0, rfl, hit, hl, by simpa using hD, hn, Nat.zero_le _, rfl, fun _ _ _ _ _ e => e⟩
  obtain ⟨h', tk, m'', i, rfl, hit', hl', hD', hn', hi, rfl, hk⟩ := hI
  show wpAny _ A ((compTurn (.ListComp (.Name y py) [⟨t1, i1, [], 0⟩, ⟨.Name y qy, i2, [], 0⟩] scope pos) 1 (.ref J) (.ref D) (compEnvC scope cl C env)).onRaise (fun x => do noteFrame x (compEnvC scope cl C env); theTreesLotGoes x)) _ _ _
  refine wpAny_noted ?_
  rw [compTurn_two1]
  refine wpAny_bind (wpAny_standAt (wpAny_bind ?_))
  cases hv : its[i]? with
  | none =>
    have hsz' : its.toList.length ≤ i := by simpa using hv
    refine wpAny_pyNext_list_end hh hit' hl' hv fun h₁ he₁ => ?_
    refine wpAny_pure ?_
    refine hR h₁ tk m'' (fun b o hbC hbJ hbD e => he₁ b o hbJ (hk b o hbC hbJ hbD e)) ?_ (hn'.extBut he₁ jc.symm)
    rw [List.take_of_length_le hsz'] at hD'
    exact he₁ D _ jd.symm hD'
  | some v =>
    have hlt : i < its.size := (Array.getElem?_eq_some_iff.mp hv).1
    have hvl : its.toList[i]? = some v := by simpa using hv
    refine wpAny_pyNext_list_item hit' hl' hv fun h₁ hit₁ hs₁ => ?_
    refine wpAny_bind (wpAny_of_eq rfl ?_)
    refine wpAny_bind (wpAny_assign_Name (wpAny_storeName_local (lookup_relabel_local hy) (hn'.sameBut hs₁ jc.symm) (fun h₂ hn₂ hs₂ => ?_) (by simp [compEnvC, relabel, hkind])))
    refine wpAny_bind (wpAny_bind (ldVarK (v := v) hn₂ (by simp) ?_ hkind (lookup_relabel_local hy) hdb))
    have hD₂ : h₂.get? D = some (lst (ys ++ its.toList.take i)) := hs₂.extBut D _ cd.symm (hs₁.extBut D _ jd.symm hD')
    refine wpAny_bind (append_at (hsz := by simp; omega) hD₂ fun h₃ hs₃ hD₃ => ?_)
    refine wpAny_pure (wpAny_pure ⟨rfl, its.size + 1 - (i + 1), by omega, h₃, _, _, i + 1, rfl, ?_, ?_, ?_, hn₂.sameBut hs₃ cd, hlt, rfl, ?_⟩)
    · exact (hit₁.extBut hs₂.extBut jc).extBut hs₃.extBut jd
    · exact hl'.at fun o e => hs₃.extBut r o rd (hs₂.extBut r o rc (hs₁.extBut r o rj e))
    · rw [hD₃, List.take_add_one, hvl]
      exact congrArg some ((lst_snoc _ _).trans (by rw [List.append_assoc]; rfl))
    · exact fun b o hbC hbJ hbD e => hs₃.extBut b o hbD (hs₂.extBut b o hbC (hs₁.extBut b o hbJ (hk b o hbC hbJ hbD e)))
theorem two_start {elt t1 i1 t2 i2 : Expr} {scope : Scope} {pos : Pos} {it acc : Value}
    (h0 : codeAny (model prog w) A (.compLoop (.ListComp elt [⟨t1, i1, [], 0⟩, ⟨t2, i2, [], 0⟩] scope pos) 1 it acc env) R s)
    (h : wpAny (model prog w) A (pyIter it) (fun it' s' => codeAny (model prog w) A (.compLoop (.ListComp elt [⟨t1, i1, [], 0⟩, ⟨t2, i2, [], 0⟩] scope pos) 1 it' acc env) R s')
      (notedBy (model prog w) A env fun x s' => R (.error x) s') s) :
    codeAny (model prog w) A (.compStart (.ListComp elt [⟨t1, i1, [], 0⟩, ⟨t2, i2, [], 0⟩] scope pos) 1 it acc env) R s := by
  refine codeAny_of_tree ?_
  show wpAny _ _ ((compStart (.ListComp elt [⟨t1, i1, [], 0⟩, ⟨t2, i2, [], 0⟩] scope pos) 1 it acc env).onRaise (fun x => do noteFrame x env; standAt theWindowsPlace)) _ _ s
  refine wpAny_notedAt ?_
  unfold compStart
  show wpAny _ _ (ask >>= _) _ _ s
  refine wpAny_bind (wpAny_askSetting (wpAny_ite ?_))
  split
  · first
      | exact wpAny_bind (wpAny_pure (wpAny_pure (And.intro rfl h0)))
      | exact wpAny_pure (And.intro rfl h0)
  · first
      | exact wpAny_bind (wpAny_rule (wpAny_bind (wpAny_standAt (wpAny_bind (wpAny_mono h (fun it' s' h' => wpAny_pure (And.intro rfl h')) fun _ _ x => x)))))
      | (refine wpAny_bind (wpAny_rule ?_); show wpAny _ _ (standAt i2.pos >>= _) _ _ s; exact wpAny_bind (wpAny_standAt (wpAny_bind (wpAny_mono h (fun it' s' h' => wpAny_pure (And.intro rfl h')) fun _ _ x => x))))
theorem two_outer {i1 : Expr} {x y : Str} {px py qx qy : Pos} {scope : Scope} {cl : List (Str × Addr)} {pos : Pos} {I C D r : Addr} {rows : List (Addr × List Value)} {m' : Str → Option Value}
    (hh : A.handled = none) (hkind : scope.kind = .function) (hx : scope.names.lookup x = some .local) (hdx : (x == ("__debug__" : Str)) = false) (hy : scope.names.lookup y = some .local) (hdb : (y == ("__debug__" : Str)) = false)
    (hs : ∀ v, foldedSetIterable (.Name x qx) (compEnvC scope cl C env) v = pure v)
    (hit : s.heap.IsListIter I r 0) (hl : s.heap.IsList r (rows.map fun p => Value.ref p.1).toArray) (hrows : ∀ p ∈ rows, s.heap.IsList p.1 p.2.toArray) (hD : s.heap.get? D = some (lst [])) (hn : s.heap.Ns C m') (ic : I ≠ C) (id : I ≠ D) (cd : C ≠ D) (rj : r ≠ I) (rc : r ≠ C) (rd : r ≠ D)
    (hoff : ∀ p ∈ rows, p.1 ≠ I ∧ p.1 ≠ C ∧ p.1 ≠ D) (hsz : (rows.flatMap (·.2)).length ≤ sizeLine)
    (hR : ∀ h' tk m'', (∀ b o, b ≠ C → b ≠ I → b ≠ D → s.heap.get? b = some o → h'.get? b = some o) → h'.get? D = some (lst (rows.flatMap (·.2))) → h'.Ns C m'' → R (.ok .next) { s with heap := h', toks := tk }) :
    codeAny (model prog w) A (.compLoop (.ListComp (.Name y py) [⟨.Name x px, i1, [], 0⟩, ⟨.Name y qy, .Name x qx, [], 0⟩] scope pos) 0 (.ref I) (.ref D) (compEnvC scope cl C env)) R s := by
  refine codeAny_loop rfl (fun k s' => ∃ h' tk m'' i, s' = { s with heap := h', toks := tk } ∧ h'.IsListIter I r i ∧ h'.get? D = some (lst ((rows.take i).flatMap (·.2))) ∧ h'.Ns C m'' ∧ i ≤ rows.length ∧ k = rows.length + 1 - i ∧ ∀ b o, b ≠ C → b ≠ I → b ≠ D → s.heap.get? b = some o → h'.get? b = some o) (fun n s' hI => ?_) (rows.length + 1)
    ⟨s.heap, s.toks, m', 0, rfl, hit, by simpa using hD, hn, Nat.zero_le _, rfl, fun _ _ _ _ _ e => e⟩
  obtain ⟨h', tk, m'', i, rfl, hit', hD', hn', hi, rfl, hk⟩ := hI
  have hl' : h'.IsList r (rows.map fun p => Value.ref p.1).toArray := hl.at fun o e => hk r o rc rj rd e
  show wpAny _ A ((compTurn (.ListComp (.Name y py) [⟨.Name x px, i1, [], 0⟩, ⟨.Name y qy, .Name x qx, [], 0⟩] scope pos) 0 (.ref I) (.ref D) (compEnvC scope cl C env)).onRaise (fun x => do noteFrame x (compEnvC scope cl C env); theTreesLotGoes x)) _ _ _
  refine wpAny_noted ?_
  rw [compTurn_two0]
  refine wpAny_bind (wpAny_standAt (wpAny_bind ?_))
  cases hv : rows[i]? with
  | none =>
    have hsz' : rows.length ≤ i := by simpa using hv
    refine wpAny_pyNext_list_end hh hit' hl' (by simp [hv]) fun h₁ he₁ => ?_
    refine wpAny_pure ?_
    refine hR h₁ tk m'' (fun b o hbC hbJ hbD e => he₁ b o hbJ (hk b o hbC hbJ hbD e)) ?_ (hn'.extBut he₁ ic.symm)
    rw [List.take_of_length_le hsz'] at hD'
    exact he₁ D _ id.symm hD'
  | some p =>
    have hlt : i < rows.length := (List.getElem?_eq_some_iff.mp hv).1
    have hpm : p ∈ rows := List.mem_of_getElem? hv
    obtain ⟨o1, o2, o3⟩ := hoff p hpm
    refine wpAny_pyNext_list_item (x := .ref p.1) hit' hl' (by simp [hv]) fun h₁ hit₁ hs₁ => ?_
    refine wpAny_bind (wpAny_of_eq rfl ?_)
    refine wpAny_bind (wpAny_assign_Name (wpAny_storeName_local (lookup_relabel_local hx) (hn'.sameBut hs₁ ic.symm) (fun h₂ hn₂ hs₂ => ?_) (by simp [compEnvC, relabel, hkind])))
    refine wpAny_bind (ldVarK (v := .ref p.1) hn₂ (by simp) ?_ hkind (lookup_relabel_local hx) hdx)
    refine wpAny_bind (wpAny_standAt (wpAny_bind (wpAny_of_eq (hs _) (wpAny_bind (wpAny_holding ?_)))))
    have hp₂ : h₂.IsList p.1 p.2.toArray := (hrows p hpm).at fun o e => hs₂.extBut _ o o2 (hs₁.extBut _ o o1 (hk _ o o2 o1 o3 e))
    have hD₂ : h₂.get? D = some (lst ((rows.take i).flatMap (·.2))) := hs₂.extBut D _ cd.symm (hs₁.extBut D _ id.symm hD')
    refine wpAny_pyIter_list hp₂ ?_
    have up : ∀ b o, h₂.get? b = some o → (h₂.push { cls := .type "list_iterator", data := .fields #[.ref p.1, .int 0 0] }).get? b = some o := fun b o e => Heap.get?_push_of_some _ e
    have hlt2 : ∀ b o, h₂.get? b = some o → b ≠ h₂.objs.size := fun b o e => Nat.ne_of_lt (Heap.lt_size e)
    have efl : (rows.take (i + 1)).flatMap (·.2) = (rows.take i).flatMap (·.2) ++ p.2 := by rw [List.take_add_one, hv]; simp
    have esz : ((rows.take i).flatMap (·.2)).length + p.2.length ≤ sizeLine := by
      have e1 : rows = rows.take (i + 1) ++ rows.drop (i + 1) := (List.take_append_drop _ _).symm
      have e2 := congrArg (fun l : List (Addr × List Value) => (l.flatMap (·.2)).length) e1
      simp only [List.flatMap_append, List.length_append, efl] at e2
      omega
    obtain ⟨oC, heC, _⟩ := ns_obj hn₂
    obtain ⟨op, hep, _⟩ := hp₂
    have hp₂ : h₂.IsList p.1 p.2.toArray := (hrows p hpm).at fun o e => hs₂.extBut _ o o2 (hs₁.extBut _ o o1 (hk _ o o2 o1 o3 e))
    have hJ : (h₂.push { cls := .type "list_iterator", data := .fields #[.ref p.1, .int 0 0] }).IsListIter h₂.objs.size p.1 0 := ⟨_, Heap.get?_push_size _ rfl, rfl, rfl⟩
    refine wpAny_bind (wpAny_runOwn ?_)
    refine (fun key => two_start key (wpAny_pyIter_listiter hJ key)) ?_
    have hn₃ : (h₂.push { cls := .type "list_iterator", data := .fields #[.ref p.1, .int 0 0] }).Ns C _ := hn₂.at' fun o e => up _ o e
    refine two_inner (its := p.2.toArray) (show (A.mark none).handled = none from hh) hkind hy hdb hJ (hp₂.at fun o e => up _ o e) (up _ _ hD₂) hn₃ (Ne.symm (hlt2 _ _ heC)) (Ne.symm (hlt2 _ _ hD₂)) cd (hlt2 _ _ hep) o2 o3 (by simpa using esz) ?_
    intro h₄ tk₄ m₄ k₄ hD₄ hn₄
    refine wpAny_pure ⟨rfl, rows.length + 1 - (i + 1), by omega, h₄, _, m₄, i + 1, rfl, ?_, ?_, hn₄, hlt, rfl, ?_⟩
    · obtain ⟨oI, eI, rI⟩ := hit₁
      have e2 := hs₂.extBut I _ ic eI
      exact ⟨oI, k₄ _ _ ic (hlt2 _ _ e2) id (up _ _ e2), rI⟩
    · rw [hD₄, efl]
    · intro b o hbC hbI hbD e
      have e2 := hs₂.extBut b _ hbC (hs₁.extBut b _ hbI (hk b o hbC hbI hbD e))
      exact k₄ b o hbC (hlt2 _ _ e2) hbD (up _ _ e2)
noncomputable def TwoSrc (A : Around) (h₀ : Heap) (L : Addr) (m : Str → Option Value) (Q : Value → Shared → Prop) (xv : Value) (s₁ : Shared) : Prop :=
  ∃ (r : Addr) (rows : List (Addr × List Value)) (news : Ledger) (k : Nat), xv = .ref r ∧ A.handled = none ∧ Fr h₀ L s₁.heap m ∧ News h₀ L s₁.heap news ∧ (r, ({ cls := .type "list", data := .seq (rows.map fun p => Value.ref p.1).toArray k } : Obj)) ∈ news ∧ (∀ p ∈ rows, ∃ n, (p.1, ({ cls := .type "list", data := .seq p.2.toArray n } : Obj)) ∈ news) ∧ (rows.flatMap (·.2)).length ≤ sizeLine ∧
    ∀ D h tk, Fr h₀ L h m → News h₀ L h ((D, lst (rows.flatMap (·.2))) :: news) → (∀ q ∈ news, q.1 ≠ D) → Q (.ref D) { s₁ with heap := h, toks := tk }
theorem ListComp_2 {i1 : Expr} {x y : Str} {px py qx qy : Pos} {scope : Scope} {cl : List (Str × Addr)} {pos : Pos} {Q : Value → Shared → Prop} (F₀ : Fr h₀ L s.heap m)
    (hclos : closureFor scope env = pure cl) (hcell : ∀ y ∈ scope.names, y.2 ≠ .cell) (hkind : scope.kind = .function)
    (hnames : ∀ y ∈ scope.names, y.2 = .local → scope.names.lookup y.1 = some .local) (hx : scope.names.lookup x = some .local) (hdx : (x == ("__debug__" : Str)) = false) (hy : scope.names.lookup y = some .local) (hdb : (y == ("__debug__" : Str)) = false)
    (h : wpAny (model prog w) A (eval i1 env) (TwoSrc A h₀ L m Q) E s)
    (hs : ∀ x, foldedSetIterable i1 env x = pure x := by intro _; rfl) (hs2 : ∀ C v, foldedSetIterable (.Name x qx) (compEnvC scope cl C env) v = pure v := by intro _ _; rfl) :
    wpAny (model prog w) A (eval (.ListComp (.Name y py) [⟨.Name x px, i1, [], 0⟩, ⟨.Name y qy, .Name x qx, [], 0⟩] scope pos) env) Q E s := by
  let _ := F₀
  rw [eval_ListComp]
  refine wpAny_comprehension_free (use := none) rfl hs hclos hkind hnames (wpAny_mono h (fun xv s₁ h₁ => ?_) fun _ _ e => e)
  obtain ⟨r, rows, news, k, rfl, hh, F, N, hr, hrows, hsz, fin⟩ := h₁
  have hl : s₁.heap.IsList r (rows.map fun p => Value.ref p.1).toArray := ⟨_, (N _ hr).1, rfl, _, rfl⟩
  refine wpAny_pyIter_list hl ?_
  have up : ∀ b o, s₁.heap.get? b = some o → (s₁.heap.push { cls := .type "list_iterator", data := .fields #[.ref r, .int 0 0] }).get? b = some o := fun b o e => Heap.get?_push_of_some _ e
  have hI : (s₁.heap.push { cls := .type "list_iterator", data := .fields #[.ref r, .int 0 0] }).IsListIter s₁.heap.objs.size r 0 := ⟨_, Heap.get?_push_size _ rfl, rfl, rfl⟩
  have F1 := F.keeps up
  have N1 := N.grown up
  have hsize1 : (s₁.heap.push { cls := .type "list_iterator", data := .fields #[.ref r, .int 0 0] }).objs.size = s₁.heap.objs.size + 1 := Heap.size_push ..
  generalize (s₁.heap.push { cls := .type "list_iterator", data := .fields #[.ref r, .int 0 0] }) = H1 at *
  refine wpAny_newObj_type (wpAny_newFunctionEnv hcell (by intro y hy; simp at hy) (fun h₁ hns₁ hsb₁ => ?_) hkind)
  dsimp only at hns₁ hsb₁ ⊢
  generalize hH2 : H1.push { cls := .type "list", dict := none, data := .seq ([] : List Value).toArray } = H2 at hns₁ hsb₁ ⊢
  have hC : H2.objs.size = H1.objs.size + 1 := by rw [← hH2, Heap.size_push]
  have hDC : H1.objs.size ≠ H2.objs.size := by rw [hC]; exact Nat.ne_of_lt (Nat.lt_succ_self _)
  have below : ∀ b, b < H1.objs.size → b ≠ H2.objs.size ∧ b ≠ H1.objs.size := fun b hb => ⟨by rw [hC]; exact Nat.ne_of_lt (Nat.lt_succ_of_lt hb), Nat.ne_of_lt hb⟩
  have old : ∀ b o, H1.get? b = some o → h₁.get? b = some o := fun b o e => hsb₁.extBut b o (below b (Heap.lt_size e)).1 (Heap.get?_push_of_some _ (hH2 ▸ Heap.get?_push_of_some _ e))
  have hacc : h₁.get? H1.objs.size = some (lst []) := hsb₁.extBut _ _ hDC (Heap.get?_push_of_some _ (hH2 ▸ Heap.get?_push_size _ rfl))
  have fresh : ∀ a, s₁.heap.objs.size ≤ a → s₁.heap.get? a = none := fun a ha => by
    cases e : s₁.heap.get? a with
    | none => rfl
    | some o' => exact absurd (Heap.lt_size e) (Nat.not_lt.mpr ha)
  have fresh₀ : ∀ a, s₁.heap.objs.size ≤ a → h₀.get? a = none := fun a ha => by
    cases e : h₀.get? a with
    | none => rfl
    | some o' => have := F.keep a o' e; rw [fresh a ha] at this; cases this
  have hIlt : s₁.heap.objs.size < H1.objs.size := by omega
  have hLlt : L < s₁.heap.objs.size := F.ns.lt
  have nlt : ∀ p ∈ news, p.1 < s₁.heap.objs.size := fun p hp => Heap.lt_size (N p hp).1
  have hrlt := nlt _ hr
  have loop : ∀ s₃ : Shared, s₃.heap = h₁ → (∃ hh tt, s₃ = { s₁ with heap := hh, toks := tt }) →
      codeAny (model prog w) A (.compLoop (.ListComp (.Name y py) [⟨.Name x px, i1, [], 0⟩, ⟨.Name y qy, .Name x qx, [], 0⟩] scope pos) 0 (.ref s₁.heap.objs.size) (.ref H1.objs.size) (compEnvC scope cl H2.objs.size env)) (compPost (model prog w) A E none Q (.ref H1.objs.size) H2.objs.size) s₃ := by
    rintro s₃ e3 ⟨hh', tt, rfl⟩
    dsimp only at e3
    subst e3
    refine two_outer (r := r) (rows := rows) hh hkind hx hdx hy hdb (fun v => hs2 _ v) (hI.at fun o e => old _ o e) ⟨_, old _ _ (N1 _ hr).1, rfl, _, rfl⟩ (fun p hp => by obtain ⟨n, hn⟩ := hrows p hp; exact ⟨_, old _ _ (N1 _ hn).1, rfl, _, rfl⟩) hacc hns₁ (below _ hIlt).1 (below _ hIlt).2 (Ne.symm hDC) (Nat.ne_of_lt hrlt) (below _ (Nat.lt_trans hrlt hIlt)).1 (below _ (Nat.lt_trans hrlt hIlt)).2
      (fun p hp => by obtain ⟨n, hn⟩ := hrows p hp; have := nlt _ hn; exact ⟨Nat.ne_of_lt this, (below _ (Nat.lt_trans this hIlt)).1, (below _ (Nat.lt_trans this hIlt)).2⟩) hsz ?_
    intro h' tk m'' kk hD' hn'
    refine ⟨m'', hn', fun h'' hs'' => fin _ h'' tk ?_ ?_ ?_⟩
    · have F2 : Fr h₀ L h' m := ⟨F.ns.at' fun o e => kk _ o (below _ (Nat.lt_trans hLlt hIlt)).1 (Nat.ne_of_lt hLlt) (below _ (Nat.lt_trans hLlt hIlt)).2 (old _ _ (up _ _ e)), fun b o e => (by have e1 := F.keep b o e; have b1 := Heap.lt_size e1; exact kk b o (below _ (Nat.lt_trans b1 hIlt)).1 (Nat.ne_of_lt b1) (below _ (Nat.lt_trans b1 hIlt)).2 (old _ _ (up _ _ e1))), F.above⟩
      exact F2.change hs'' (Ne.symm (below _ (Nat.lt_trans hLlt hIlt)).1) (fresh₀ _ (by omega))
    · intro p hp
      rcases List.mem_cons.mp hp with rfl | hp
      · exact ⟨hs''.extBut _ _ hDC hD', Ne.symm (below _ (Nat.lt_trans hLlt hIlt)).2, fresh₀ _ (by omega)⟩
      · have b1 := nlt _ hp
        exact ⟨hs''.extBut _ _ (below _ (Nat.lt_trans b1 hIlt)).1 (kk _ _ (below _ (Nat.lt_trans b1 hIlt)).1 (Nat.ne_of_lt b1) (below _ (Nat.lt_trans b1 hIlt)).2 (old _ _ (up _ _ (N p hp).1))), (N p hp).2⟩
    · exact fun q hq => (below _ (Nat.lt_trans (nlt q hq) hIlt)).2
  exact codeAny_compStart_list (loop _ rfl ⟨_, _, rfl⟩) (wpAny_pyIter_listiter (hI.at fun o e => old _ o e) (loop _ rfl ⟨_, _, rfl⟩))
end
end
/-! B4 -/
theorem reg15 : True := by
  k_with "LCW" => (k_here; (with_reducible show wpAny _ _ (eval (Expr.ListComp _ [⟨Expr.Name _ _, _, [], _⟩] _ _) _) _ _ _); k_dflt (refine' ListComp_W ?zF ?zc ?zk1 ?zk2 ?zk3 ?zk4 ?_; (case zF => k_asm); (case zc => with_unfolding_all rfl); (case zk1 => decide); (case zk2 => exact rfl); (case zk3 => decide); (case zk4 => exact rfl)))
  k_with "LCWT" => (k_here; (with_reducible show wpAny _ _ (eval (Expr.ListComp _ [⟨Expr.Name _ _, _, [_], _⟩] _ _) _) _ _ _); k_dflt (refine' ListComp_WT ?zF ?zc ?zk1 ?zk2 ?zk3 ?zk4 ?_; (case zF => k_asm); (case zc => with_unfolding_all rfl); (case zk1 => decide); (case zk2 => exact rfl); (case zk3 => decide); (case zk4 => exact rfl)))
  k_with "eval ListComp Tuple cons" => first | walk_at "LCW" | walk_at "LCWT"
  k_with "eval ListComp Name cons" => first | walk_at "LCW" | walk_at "LCWT"
  k_with "eval ListComp Call cons" => first | walk_at "LCW" | walk_at "LCWT"
  k_with "eval ListComp Subscript cons" => first | walk_at "LCW" | walk_at "LCWT"
  trivial
noncomputable def CDef (prog : Program) (w : World) (news : Ledger) (x : Addr) (M : List (Int × Int)) : Prop := ∃ (dx d : Addr) (hh : Int) (t : Tok) (n : Nat), (x, instObj 64 dx) ∈ news ∧ (dx, dictOf [⟨hh, .str "classes" t, .ref d⟩] n) ∈ news ∧ IDict prog w news d M
theorem CDef.mono {prog : Program} {w : World} {news news' : Ledger} {x : Addr} {M : List (Int × Int)} (h : CDef prog w news x M) (s : ∀ p ∈ news, p ∈ news') : CDef prog w news' x M := by
  obtain ⟨dx, d, hh, t, n, a, b, c⟩ := h
  exact ⟨dx, d, hh, t, n, s _ a, s _ b, c.mono s⟩
theorem CDef.elim {prog : Program} {w : World} {news : Ledger} {x : Addr} {M : List (Int × Int)} {motive : Prop} (h : CDef prog w news x M)
    (k : ∀ (dx d : Addr) (hh : Int) (t : Tok) (n : Nat), (x, instObj 64 dx) ∈ news → (dx, dictOf [⟨hh, .str "classes" t, .ref d⟩] n) ∈ news → IDict prog w news d M → motive) : motive := by
  obtain ⟨dx, d, hh, t, n, a, b, c⟩ := h
  exact k dx d hh t n a b c
theorem classof_call {w : World} {A : Around} {h₀ : Heap} {L : Addr} {m : Str → Option Value} {s : Shared} {news : Ledger} {x : Addr} {tg : Tok} {g : Int} {M : List (Int × Int)} {Q E : Value → Shared → Prop}
   (cx : Cx w A h₀ L m s news 3 80) (hx : CDef Challenge.rw_pb0171_01.row.toRowW.prog w news x M)
   (ret : ∀ h' tk' t', Fr h₀ L h' m → News h₀ L h' news → Q (.int ((get M g).getD 0) t') { s with heap := h', toks := tk' }) :
   wpAny (model Challenge.rw_pb0171_01.row.toRowW.prog w) A (call (.ref 42) [.ref x, .int g tg]) Q E s := by
  obtain ⟨dx, d, hh, t, n, m1, m2, o, m3, ⟨kvs, ho, hf⟩, lo⟩ := hx
  walk_at "ENTER"
  k_steps
  rename Flat _ _ => hv
  rw [lookup_mapD] at hv
  have e : (Option.map PyData.int (get M g)).getD (PyData.int 0) = PyData.int ((get M g).getD 0) := by cases get M g <;> rfl
  rw [e] at hv
  obtain ⟨t', rfl⟩ := Flat.int_inv hv
  exact ret _ _ _ (by assumption) (by assumption)
theorem srt_length (l : List Int) : (srt l).length = l.length := (srt_perm l).length_eq
theorem reg16 : True := by
  k_with "call builtin:sorted cons nil" => (k_here; k_dflt (refine' sorted_dict ?zhh ?zF ?zN ?zhd ?zh64 ?_; (case zhh => exact rfl); (case zF => k_asm); (case zN => k_asm); (case zhd => refine IDict.mono (by assumption) ?_; walk_at "SUB"); (case zh64 => assumption); intros; (rename_i l1 _; k_lt l1; revert l1; intros); (have hn9 := IntsAre.length ‹IntsAre _ _›); (rw [srt_length, List.length_map] at hn9); revert hn9; intros))
  trivial
theorem intsAt {vs : List Value} {ns : List Int} (h : IntsAre vs ns) {i : Nat} {v : Value} (e : vs.toArray[i]? = some v) : ∃ (k : Int) (t : Tok), ns[i]? = some k ∧ v = .int k t := by
  induction h generalizing i with
  | nil => simp at e
  | cons k t r ih =>
    cases i with
    | zero => simp at e; exact ⟨k, t, rfl, e.symm⟩
    | succ i => simp at e; exact ih (by simpa using e)
theorem get_of_key {M : List (Int × Int)} {k : Int} (h : k ∈ M.map (·.1)) : ∃ x, get M k = some x := by
  induction M with
  | nil => simp at h
  | cons p r ih =>
    rw [show get (p :: r) k = if p.1 = k then some p.2 else get r k from rfl]
    by_cases e : p.1 = k
    · exact ⟨_, if_pos e⟩
    · rw [if_neg e]
      refine ih ?_
      rcases List.mem_cons.mp h with h | h
      · exact absurd h.symm e
      · exact h
theorem ctold_call {w : World} {A : Around} {h₀ : Heap} {L : Addr} {m : Str → Option Value} {s : Shared} {news sym : Ledger} {G : Ledger → Ledger} {x : Addr} {M : List (Int × Int)} {Q E : Value → Shared → Prop}
   (cx : Cx w A h₀ L m s news 3 80) (hG : ∀ tl, Mv tl sym news (G tl)) (hx : CDef Challenge.rw_pb0171_01.row.toRowW.prog w news x M) (h64 : M.length < 64) 
   (ret : ∀ v h' tk' tl, DatIn tl v (.tuple ((srt (M.map (·.1))).map fun k => tupI [k, (get M k).getD 0])) → Above news tl → Fr h₀ L h' m → News h₀ L h' (G tl) → Q v { s with heap := h', toks := tk' }) :
   wpAny (model Challenge.rw_pb0171_01.row.toRowW.prog w) A (call (.ref 61) [.ref x]) Q E s := by
  refine CDef.elim hx ?_
  (try clear hx)
  intro dx d hh t n m1 m2 hd
  have hin : ∀ (i : Nat) (k : Int), (srt (M.map (·.1)))[i]? = some k → ∃ x, get M k = some x := fun i k hk => get_of_key (by have := List.mem_of_getElem? hk; exact (srt_perm _).mem_iff.mp this)
  have hlen : (srt (M.map (·.1))).length = M.length := by rw [(srt_perm _).length_eq]; simp
  walk_at "ENTERC"
  k_steps
  rename IntsAre _ _ => hi
  have hil := hi.length
  k_dflt (refine' src_grow (by assumption) (by assumption) (iters_list rfl (by assumption) (.head _)) ?sz (.head _) (fun i ys tl => DatAll tl ys (((srt (M.map (·.1))).map fun k => tupI [k, (get M k).getD 0]).take i)) ?h0 ?turn ?fin)
  case sz => rw [sizeLine_eq]; simp only [List.size_toArray]; omega
  case h0 => exact .nil
  case turn =>
    intro i ys tl v I oI C oC D m₂ h tk E' hlt ha hr hP hC hx F' N' off ne
    obtain ⟨k, tk', e1, rfl⟩ := intsAt hi hP
    obtain ⟨x, hx⟩ := hin i k e1
    have hd' := hd
    obtain ⟨o, m3, ⟨kvs, ho, hf⟩, lo⟩ := hd
    have hlk : Spec.lookup (PyData.int k) (mapD M) = some (PyData.int x) := by rw [lookup_mapD, hx]; rfl
    k_steps
    walk_at "GROW"
    exact datTake (d := tupI [k, x]) hr (by simp [e1, hx]) (by walk_at "SUB") (by walk_at "DAT")
  case fin =>
    intro g ys tl ha hr
    have hyl : ys.length ≤ 64 := by have := hr.length; simp at this; omega
    k_steps
    refine' ret _ _ _ _ ?e1 ?e2 (by assumption) (news_spl (by assumption) ?e3 (hG _))
    case e3 => walk_at "SPL"
    case e1 => exact .tuple (by k_mem) ((datEnd hr (by simp [hil])).mono (by walk_at "SUB"))
    case e2 => walk_at "ABOVE"
/-! B5 -/
noncomputable def tclStep (M T : List (Int × Int)) (acc : List (Int × Int)) (k : Int) : List (Int × Int) := match get T k with | some y => put acc y ((get M k).getD 0) | none => acc
noncomputable def tcl (M T : List (Int × Int)) : List (Int × Int) := (srt (M.map (·.1))).foldl (tclStep M T) []
theorem reg17 : True := by
  k_with "eval DictComp" => (k_here; k_dflt (refine' DictComp_WT ?zF ?zc ?zk1 ?zk2 ?zk3 ?zk4 ?_; (case zF => k_asm); (case zc => with_unfolding_all rfl); (case zk1 => decide); (case zk2 => exact rfl); (case zk3 => decide); (case zk4 => exact rfl)))
  trivial
theorem foldl_take {α β : Type} (f : β → α → β) (l : List α) (b : β) (i : Nat) (x : α) (h : l[i]? = some x) : (l.take (i + 1)).foldl f b = f ((l.take i).foldl f b) x := by
  rw [List.take_add_one, h, List.foldl_append]; rfl
theorem isSome_none {α : Type} {o : Option α} (h : o = none) (k : o.isSome = true) : False := by subst h; cases k
theorem isSome_some {α : Type} {o : Option α} {x : α} (h : o = some x) (k : o.isSome = false) : False := by subst h; cases k
theorem turnc_call {w : World} {A : Around} {h₀ : Heap} {L : Addr} {m : Str → Option Value} {s : Shared} {news sym : Ledger} {G : Ledger → Ledger} {x d : Addr} {M T : List (Int × Int)} {Q E : Value → Shared → Prop}
   (cx : Cx w A h₀ L m s news 3 80) (hG : ∀ tl, Mv tl sym news (G tl)) (hx : CDef Challenge.rw_pb0171_01.row.toRowW.prog w news x M) (hd : IDict Challenge.rw_pb0171_01.row.toRowW.prog w news d T) (h64 : M.length < 64) 
   (ret : ∀ x' h' tk' tl, CDef Challenge.rw_pb0171_01.row.toRowW.prog w tl x' (tcl M T) → Above news tl → Fr h₀ L h' m → News h₀ L h' (G tl) → Q (.ref x') { s with heap := h', toks := tk' }) :
   wpAny (model Challenge.rw_pb0171_01.row.toRowW.prog w) A (call (.ref 73) [.ref x, .ref d]) Q E s := by
  refine CDef.elim hx ?_
  (try clear hx)
  intro dx dc hh t n m1 m2 hc
  have hin : ∀ (i : Nat) (k : Int), (srt (M.map (·.1)))[i]? = some k → ∃ x, get M k = some x := fun i k hk => get_of_key (by have := List.mem_of_getElem? hk; exact (srt_perm _).mem_iff.mp this)
  have hlen : (srt (M.map (·.1))).length = M.length := by rw [(srt_perm _).length_eq]; simp
  walk_at "ENTERC"
  k_steps
  rename IntsAre _ _ => hi
  have hil := hi.length
  k_dflt (refine' src_dict (by assumption) (by assumption) (Top.nolimit (by assumption)) (iters_list rfl (by assumption) (.head _)) ?sz (.head _) (fun i => ((srt (M.map (·.1))).take i).foldl (tclStep M T) []) ?h0 ?hf ?turn ?fin)
  case sz => rw [sizeLine_eq]; simp only [List.size_toArray]; omega
  case h0 => rfl
  case hf =>
    intro i hlt
    simp only [List.size_toArray] at hlt
    have e := List.getElem?_eq_getElem (l := srt (M.map (·.1))) (i := i) (by omega)
    rw [foldl_take _ _ _ _ _ e]
    unfold tclStep
    split
    · exact .inl ⟨_, _, rfl⟩
    · exact .inr rfl
  case turn =>
    intro i v I oI C oC D oD m₂ h tk E' hlt hP hC hx F' N' off ne
    obtain ⟨k, tk', e1, rfl⟩ := intsAt hi hP
    obtain ⟨x, hx⟩ := hin i k e1
    obtain ⟨o, m3, ⟨kvs, ho, hf⟩, lo⟩ := hc
    obtain ⟨o', m4, ⟨kvs', ho', hf'⟩, lo'⟩ := hd
    have hlk : Spec.lookup (PyData.int k) (mapD M) = some (PyData.int x) := by rw [lookup_mapD, hx]; rfl
    rw [foldl_take _ _ _ _ _ e1]
    cases hg : get T k with
    | none =>
      have hlk' : Spec.lookup (PyData.int k) (mapD T) = none := by rw [lookup_mapD, hg]; rfl
      k_steps
      · exact (isSome_none hlk' (by assumption)).elim
      · refine dend (by assumption) (by assumption) (by walk_at "SUB") ?_
        simp [tclStep, hg]
    | some y =>
      have hlk' : Spec.lookup (PyData.int k) (mapD T) = some (PyData.int y) := by rw [lookup_mapD, hg]; rfl
      k_steps
      · refine dend (by assumption) (by assumption) (by walk_at "SUB") ?_
        simp [tclStep, hg, hx]
      · exact (isSome_some hlk' (by assumption)).elim
  case fin =>
    intro g D oD h tk hM lo F' N' o1
    k_steps
    refine' ret _ _ _ _ ?e1 ?e2 (by assumption) (news_spl (by assumption) ?e3 (hG _))
    case e3 => walk_at "SPL"
    case e1 =>
      refine ⟨_, _, _, _, _, by k_mem, by k_mem, _, by k_mem, ?_, lo⟩
      rw [List.take_of_length_le (by simp [hil])] at hM
      exact hM
    case e2 => walk_at "ABOVE"
/-! B6 -/
noncomputable def Cov (news : Ledger) (x : Addr) (ns : List Int) : Prop := ∃ (dx t : Addr) (hh : Int) (tt : Tok) (n k : Nat) (vs : List Value), (x, instObj 111 dx) ∈ news ∧ (dx, dictOf [⟨hh, .str "glyphs" tt, .ref t⟩] n) ∈ news ∧ (t, ({ cls := .type "tuple", data := .seq vs.toArray k } : Obj)) ∈ news ∧ IntsAre vs ns
theorem Cov.elim {news : Ledger} {x : Addr} {ns : List Int} {motive : Prop} (h : Cov news x ns)
    (k : ∀ (dx t : Addr) (hh : Int) (tt : Tok) (n k : Nat) (vs : List Value), (x, instObj 111 dx) ∈ news → (dx, dictOf [⟨hh, .str "glyphs" tt, .ref t⟩] n) ∈ news → (t, ({ cls := .type "tuple", data := .seq vs.toArray k } : Obj)) ∈ news → IntsAre vs ns → motive) : motive := by
  obtain ⟨dx, t, hh, tt, n, k', vs, a, b, c, d⟩ := h
  exact k dx t hh tt n k' vs a b c d
theorem Cov.mono {news news' : Ledger} {x : Addr} {ns : List Int} (h : Cov news x ns) (s : ∀ p ∈ news, p ∈ news') : Cov news' x ns := by
  obtain ⟨dx, t, hh, tt, n, k, vs, a, b, c, d⟩ := h
  exact ⟨dx, t, hh, tt, n, k, vs, s _ a, s _ b, s _ c, d⟩
section
variable {prog : Program} {w : World} {A : Around} {E : Value → Shared → Prop} {s : Shared} {h₀ : Heap} {L l : Addr} {news : Ledger} {us : List Value} {k c : Nat} {Q : Value → Shared → Prop}
theorem my_lenT (N : News h₀ L s.heap news) (hm : (l, ({ cls := .type "tuple", data := .seq us.toArray c } : Obj)) ∈ news) (e : us.length = k) (hfit : (k : Int) < 2 ^ 63)
    (h : Q (.int (k : Int) (s.toks + 1)) { s with toks := s.toks + 1 + 1 }) : wpAny (model prog w) A (call (.builtin "len") [.ref l]) Q E s := by
  have e2 : us.toArray.size = k := by rw [List.size_toArray, e]
  exact len_tuple (News.isTup N hm) (by rw [e2]; exact hfit) (by rw [e2]; exact h)
theorem my_lenL (N : News h₀ L s.heap news) (hm : (l, ({ cls := .type "list", data := .seq us.toArray c } : Obj)) ∈ news) (e : us.length = k) (hfit : (k : Int) < 2 ^ 63)
    (h : Q (.int (k : Int) (s.toks + 1)) { s with toks := s.toks + 1 + 1 }) : wpAny (model prog w) A (call (.builtin "len") [.ref l]) Q E s := kst_len N hm e hfit h
end
theorem reg18 : True := by
  k_with "call builtin:len" => (k_here; k_dflt (first | (refine' my_lenT ?zk1 ?zk2 ?zk3 ?zk4 ?_; (case zk1 => k_asm); (case zk2 => k_mem); (case zk3 => first | exact IntsAre.length (by assumption) | assumption); (case zk4 => omega)) | (refine' my_lenL ?zk1 ?zk2 ?zk3 ?zk4 ?_; (case zk1 => k_asm); (case zk2 => k_mem); (case zk3 => first | exact IntsAre.length (by assumption) | assumption); (case zk4 => omega))))
  k_with "WSAME" => (intro z h2 h3; (simp only [List.forall_mem_cons, List.not_mem_nil, false_implies, implies_true, and_true, ne_eq] at h2); (simp only [List.contains_cons, List.contains_nil, Bool.or_false, Bool.or_eq_false_iff, beq_eq_false_iff_ne, ne_eq] at h3); (simp [kstB, h2, h3]; done))
  k_with "FSAME" => (intro z h1 h2 h3; (simp only [List.forall_mem_cons, List.not_mem_nil, false_implies, implies_true, and_true, ne_eq] at h2); (simp only [List.contains_cons, List.contains_nil, Bool.or_false, Bool.or_eq_false_iff, beq_eq_false_iff_ne, ne_eq] at h3); (simp [kstB, h1, h2, h3]; done))
  k_with "KswEnd" => refine Hold.of ?_
  trivial
theorem getD_mono {ns : List Int} (hs : ns.Pairwise (· < ·)) {i j : Nat} (h : i < j) (hj : j < ns.length) : ns.getD i 0 < ns.getD j 0 := by
  have := List.pairwise_iff_getElem.mp hs i j (by omega) hj h
  rw [List.getD_eq_getElem?_getD, List.getD_eq_getElem?_getD, List.getElem?_eq_getElem (by omega), List.getElem?_eq_getElem hj]
  exact this
section
variable {ns : List Int} {g lo hi : Int}
theorem bin_up (hs : ns.Pairwise (· < ·)) (p1 : 0 ≤ lo) (p2 : lo ≤ hi) (p3 : hi ≤ (ns.length : Int)) (p4 : ∀ j : Nat, (j : Int) < lo → j < ns.length → ns.getD j 0 < g) (p5 : ∀ j : Nat, hi ≤ (j : Int) → j < ns.length → ¬ ns.getD j 0 < g)
    (h : lo < hi) (h' : ns.getD ((lo + hi).fdiv 2).toNat 0 < g) : (0 ≤ (lo + hi).fdiv 2 + 1 ∧ (lo + hi).fdiv 2 + 1 ≤ hi ∧ hi ≤ (ns.length : Int) ∧ (∀ j : Nat, (j : Int) < (lo + hi).fdiv 2 + 1 → j < ns.length → ns.getD j 0 < g) ∧ (∀ j : Nat, hi ≤ (j : Int) → j < ns.length → ¬ ns.getD j 0 < g)) ∧ (hi - ((lo + hi).fdiv 2 + 1)).toNat < (hi - lo).toNat := by
  rw [Int.fdiv_eq_ediv_of_nonneg _ (by decide : (0 : Int) ≤ 2)] at *
  refine ⟨⟨by omega, by omega, p3, fun j h1 h2 => ?_, p5⟩, by omega⟩
  by_cases e : j = ((lo + hi) / 2).toNat
  · rw [e]; exact h'
  · exact Int.lt_trans (getD_mono hs (j := ((lo + hi) / 2).toNat) (by omega) (by omega)) h'
theorem bin_dn (hs : ns.Pairwise (· < ·)) (p1 : 0 ≤ lo) (p2 : lo ≤ hi) (p3 : hi ≤ (ns.length : Int)) (p4 : ∀ j : Nat, (j : Int) < lo → j < ns.length → ns.getD j 0 < g) (p5 : ∀ j : Nat, hi ≤ (j : Int) → j < ns.length → ¬ ns.getD j 0 < g)
    (h : lo < hi) (h' : ¬ ns.getD ((lo + hi).fdiv 2).toNat 0 < g) : (0 ≤ lo ∧ lo ≤ (lo + hi).fdiv 2 ∧ (lo + hi).fdiv 2 ≤ (ns.length : Int) ∧ (∀ j : Nat, (j : Int) < lo → j < ns.length → ns.getD j 0 < g) ∧ (∀ j : Nat, (lo + hi).fdiv 2 ≤ (j : Int) → j < ns.length → ¬ ns.getD j 0 < g)) ∧ ((lo + hi).fdiv 2 - lo).toNat < (hi - lo).toNat := by
  rw [Int.fdiv_eq_ediv_of_nonneg _ (by decide : (0 : Int) ≤ 2)] at *
  refine ⟨⟨p1, by omega, by omega, p4, fun j h1 h2 h3 => ?_⟩, by omega⟩
  by_cases e : j = ((lo + hi) / 2).toNat
  · rw [e] at h3; exact h' h3
  · exact h' (Int.lt_trans (getD_mono hs (i := ((lo + hi) / 2).toNat) (by omega) h2) h3)
theorem bin_at (p1 : 0 ≤ lo) (h : lo < (ns.length : Int)) (h' : ns.getD lo.toNat 0 = g) : 0 ≤ lo ↔ g ∈ ns := by
  refine ⟨fun _ => ?_, fun _ => p1⟩
  have hl : lo.toNat < ns.length := by omega
  rw [List.getD_eq_getElem?_getD, List.getElem?_eq_getElem hl] at h'
  exact h' ▸ List.getElem_mem hl
theorem bin_not (p1 : 0 ≤ lo) (p2 : lo ≤ hi) (p4 : ∀ j : Nat, (j : Int) < lo → j < ns.length → ns.getD j 0 < g) (p5 : ∀ j : Nat, hi ≤ (j : Int) → j < ns.length → ¬ ns.getD j 0 < g)
    (h : ¬ lo < hi) (h' : lo < (ns.length : Int) → ns.getD lo.toNat 0 ≠ g) (hs : ns.Pairwise (· < ·) := by assumption) : 0 ≤ (-1 : Int) ↔ g ∈ ns := by
  refine ⟨fun h => absurd h (by decide), fun hm => ?_⟩
  exfalso
  obtain ⟨j, hj, e⟩ := List.getElem_of_mem hm
  have e' : ns.getD j 0 = g := by rw [List.getD_eq_getElem?_getD, List.getElem?_eq_getElem hj]; exact e
  rcases Nat.lt_trichotomy j lo.toNat with k | k | k
  · have := p4 j (by omega) hj; omega
  · exact h' (by omega) (k ▸ e')
  · have a := getD_mono hs k hj
    have b := p5 lo.toNat (by omega) (by omega)
    omega
end
theorem index_call {w : World} {A : Around} {h₀ : Heap} {L : Addr} {m : Str → Option Value} {s : Shared} {news : Ledger} {x : Addr} {ns : List Int} {g : Int} {tg : Tok} {Q E : Value → Shared → Prop}
   (cx : Cx w A h₀ L m s news 3 80) (hx : Cov news x ns) (h64 : ns.length < 64) (hs : ns.Pairwise (· < ·))
   (ret : ∀ r t h' tk', (0 ≤ r ↔ g ∈ ns) → Fr h₀ L h' m → News h₀ L h' news → Q (.int r t) { s with heap := h', toks := tk' }) :
   wpAny (model Challenge.rw_pb0171_01.row.toRowW.prog w) A (call (.ref 94) [.ref x, .int g tg]) Q E s := by
  refine Cov.elim hx ?_
  (try clear hx)
  intro dx t hh tt n k vs m1 m2 m3 hi
  have hil := hi.length
  walk_at "ENTER"
  k_steps
  refine Hold.to ?_
  refine' ksw_while (σ := Int × Int × Tok × Tok) (fun _ => news) (fun c => [(Str.ofString "low", .int c.1 c.2.2.1), (Str.ofString "high", .int c.2.1 c.2.2.2)]) (fun _ => True) [Str.ofString "middle"]
    (fun c => 0 ≤ c.1 ∧ c.1 ≤ c.2.1 ∧ c.2.1 ≤ (ns.length : Int) ∧ (∀ j : Nat, (j : Int) < c.1 → j < ns.length → ns.getD j 0 < g) ∧ (∀ j : Nat, c.2.1 ≤ (j : Int) → j < ns.length → ¬ ns.getD j 0 < g)) (fun c => (c.2.1 - c.1).toNat) (0, (ns.length : Int), _, _) (by assumption) (by assumption) trivial ?hk ?hp ?turn
  case hk => kst_all
  case hp => refine ⟨by simp, by simp, by simp, ?_, ?_⟩ <;> intro j h1 h2 <;> (dsimp only at h1; omega)
  case turn =>
    rintro ⟨lo, hi', t1, t2⟩ u h tk _ ⟨p1, p2, p3, p4, p5⟩ F' N'
    dsimp only at p1 p2 p3 p4 p5 F' N'
    k_steps
    · refine Hold.to (ksw_end (_, _, _, _) (by assumption) (by assumption) sub_refl trivial (by kst_all) (by walk_at "WSAME") ?_ ?_)
      · exact (bin_up hs p1 p2 p3 p4 p5 (by assumption) (by assumption)).1
      · exact (bin_up hs p1 p2 p3 p4 p5 (by assumption) (by assumption)).2
    · refine Hold.to (ksw_end (_, _, _, _) (by assumption) (by assumption) sub_refl trivial (by kst_all) (by walk_at "WSAME") ?_ ?_)
      · exact (bin_dn hs p1 p2 p3 p4 p5 (by assumption) (by assumption)).1
      · exact (bin_dn hs p1 p2 p3 p4 p5 (by assumption) (by assumption)).2
    · exact ret _ _ _ _ (bin_at p1 (by assumption) (by assumption)) (by assumption) (by assumption)
    · exact ret _ _ _ _ (bin_not p1 p2 p4 p5 (by assumption) (fun _ => by assumption)) (by assumption) (by assumption)
    · exact ret _ _ _ _ (bin_not p1 p2 p4 p5 (by assumption) (fun h => absurd h (by assumption))) (by assumption) (by assumption)
/-! B7 -/
theorem reg19 : True := by
  k_with "call ref" => (k_here; k_dflt (show wpAny _ _ (call (Value.ref 94) [Value.ref _, Value.int _ _]) _ _ _); k_dflt (refine' index_call ?zcx ?zhx ?zh64 ?zhs ?_; (case zcx => walk_at "CX"); (case zhx => refine Cov.mono (by assumption) ?_; walk_at "SUB"); (case zh64 => assumption); (case zhs => assumption); intros))
  k_with "call type:tuple" => (k_here; k_dflt (refine' call_tuple_same ?zk1 ?_; (case zk1 => exact News.isTup (by k_asm) (by k_mem))))
  trivial
theorem intsDat {news : Ledger} {vs : List Value} {ns : List Int} (h : IntsAre vs ns) : DatAll news vs (ns.map .int) := by
  induction h with
  | nil => exact .nil
  | cons k t _ ih => exact .cons (.int k t) ih
theorem has_call {w : World} {A : Around} {h₀ : Heap} {L : Addr} {m : Str → Option Value} {s : Shared} {news : Ledger} {x : Addr} {ns : List Int} {g : Int} {tg : Tok} {Q E : Value → Shared → Prop}
   (cx : Cx w A h₀ L m s news 5 160) (hx : Cov news x ns) (h64 : ns.length < 64) (hs : ns.Pairwise (· < ·))
   (ret : ∀ h' tk', Fr h₀ L h' m → News h₀ L h' news → Q (.bool (decide (g ∈ ns))) { s with heap := h', toks := tk' }) :
   wpAny (model Challenge.rw_pb0171_01.row.toRowW.prog w) A (call (.ref 101) [.ref x, .int g tg]) Q E s := by
  have hx' := hx
  refine Cov.elim hx ?_
  (try clear hx)
  intro dx t hh tt n k vs m1 m2 m3 hi
  walk_at "ENTER"
  k_steps
  rename (0 ≤ _ ↔ g ∈ ns) => hr
  change Q (.bool (decide ((0 : Int) ≤ _))) _
  rw [decide_eq_decide.mpr hr]
  exact ret _ _ (by assumption) (by assumption)
theorem covtold_call {w : World} {A : Around} {h₀ : Heap} {L : Addr} {m : Str → Option Value} {s : Shared} {news : Ledger} {x : Addr} {ns : List Int} {Q E : Value → Shared → Prop}
   (cx : Cx w A h₀ L m s news 5 160) (hx : Cov news x ns) (h64 : ns.length < 64)
   (ret : ∀ v h' tk', DatIn news v (tupI ns) → Fr h₀ L h' m → News h₀ L h' news → Q v { s with heap := h', toks := tk' }) :
   wpAny (model Challenge.rw_pb0171_01.row.toRowW.prog w) A (call (.ref 108) [.ref x]) Q E s := by
  have hx' := hx
  refine Cov.elim hx ?_
  (try clear hx)
  intro dx t hh tt n k vs m1 m2 m3 hi
  walk_at "ENTER"
  k_steps
  exact ret _ _ _ (.tuple m3 (intsDat hi)) (by assumption) (by assumption)
/-! B8 -/
/-! dicts from ints to True -/
noncomputable def mapB (ks : List Int) : List (PyData × PyData) := ks.map fun k => (PyData.int k, PyData.bool true)
noncomputable def addk (ks : List Int) (k : Int) : List Int := if k ∈ ks then ks else ks ++ [k]
noncomputable def BObj (prog : Program) (w : World) (o : Obj) (ks : List Int) : Prop := ∃ kvs, o.IsDictOf (intKind prog w) kvs ∧ FlatPairs PyData.int kvs (mapB ks)
theorem any_mapB (k : Int) : ∀ ks : List Int, (mapB ks).any (fun p => Spec.same p.1 (PyData.int k)) = decide (k ∈ ks)
  | [] => rfl
  | a :: r => by
    show (Spec.same (PyData.int a) (PyData.int k) || (mapB r).any fun p => Spec.same p.1 (PyData.int k)) = _
    rw [any_mapB k r, same_int]
    by_cases h : a = k
    · simp [h]
    · have h' : ¬ k = a := fun e => h e.symm
      simp [h, h']
theorem putD_mapB (k : Int) (ks : List Int) : putD (PyData.int k) (PyData.bool true) (mapB ks) = mapB (addk ks k) := by
  unfold putD addk
  rw [any_mapB]
  by_cases h : k ∈ ks
  · rw [if_pos (by simpa using h), if_pos h]
    unfold mapB
    rw [List.map_map]
    refine List.map_congr_left fun a _ => ?_
    simp only [Function.comp]
    split <;> rfl
  · rw [if_neg (by simpa using h), if_neg h]
    unfold mapB
    rw [List.map_append]
    rfl
theorem addk_length (ks : List Int) (k : Int) : (addk ks k).length ≤ ks.length + 1 := by unfold addk; split <;> simp
theorem len_mapB (ks : List Int) : (mapB ks).length = ks.length := by unfold mapB; simp
theorem addk_len : ∀ (ns acc : List Int), (ns.foldl addk acc).length ≤ acc.length + ns.length
  | [], acc => by simp
  | a :: r, acc => by
    have := addk_len r (addk acc a)
    have := addk_length acc a
    simp only [List.foldl_cons, List.length_cons]
    omega
section
variable {prog : Program} {w : World} {A : Around} {E : Value → Shared → Prop} {s : Shared} {h₀ : Heap} {L d : Addr} {m : Str → Option Value} {news : Ledger} {o : Obj} {ks : List Int} {Q : Value → Shared → Prop}
theorem sorted_bdict (hh : A.handled = none) (F : Fr h₀ L s.heap m) (N : News h₀ L s.heap news) (hm : (d, o) ∈ news) (hd : BObj prog w o ks) (lo : (d == sysModules) = false) (h64 : ks.length < 64)
    (h : ∀ (B : Addr) h' tk vs c, Fr h₀ L h' m → News h₀ L h' ((B, listOf vs.toArray c) :: news) → (∀ q ∈ news, q.1 < B) → IntsAre vs (srt ks) → Q (.ref B) { s with heap := h', toks := tk }) :
    wpAny (model prog w) A (call (.builtin "sorted") [.ref d]) Q E s := by
  obtain ⟨kvs, ho, hf⟩ := hd
  obtain ⟨ep, hat⟩ := (Heap.dictOf_iff.mpr ⟨o, (N _ hm).1, ho⟩).dictAt
  have hlen : kvs.length = ks.length := by have := hf.length; rw [len_mapB] at this; omega
  refine sorted_src (ns := ks) (kdl_dict (knd := intKind prog w) (kvs := kvs) (ep := ep) lo) hh F N hat hlen h64 (fun i v hv => ?_) h
  obtain ⟨k, x, hx, hk⟩ := hv
  obtain ⟨dv, hd', hfl⟩ := hf.at hx
  have e1 : ks[i]? = some k := by
    unfold mapB at hd'
    rw [List.getElem?_map] at hd'
    cases hM : ks[i]? with
    | none => rw [hM] at hd'; simp at hd'
    | some p =>
      rw [hM] at hd'
      simp only [Option.map_some, Option.some.injEq, Prod.mk.injEq] at hd'
      obtain ⟨h1, h2⟩ := hd'
      injection h1 with h1
      rw [h1]
  have hk' : ∃ t, v = Value.int k t := by
    have : Value.isInt k v = true := by simpa [intKind] using hk
    unfold Value.isInt at this
    split at this
    · rename_i j t; exact ⟨t, by simp at this; rw [this]⟩
    · cases this
  obtain ⟨t', rfl⟩ := hk'
  exact ⟨k, t', e1, rfl⟩
theorem b_set {G : Obj → Ledger} {k : Int} {t : Tok} {Q : Unit → Shared → Prop} (F : Fr h₀ L s.heap m) (N : News h₀ L s.heap news) (U : UpdF d o news G) (g : BObj prog w o ks) (hz : ks.length ≤ 1000)
    (h : ∀ h' o' tk, Fr h₀ L h' m → News h₀ L h' (G o') → BObj prog w o' (addk ks k) → Q () { s with heap := h', toks := tk }) : wpAny (model prog w) A (setItem (.ref d) (.int k t) (.bool true)) Q E s := by
  obtain ⟨kvs, ho, hf⟩ := g
  have hlen : kvs.length = ks.length := by have := hf.length; rw [len_mapB] at this; omega
  refine kda_set (knd := intKind prog w) F N U ho (intKind_is _ _ _ _) (by rw [sizeLine_eq]; omega) fun h' o' F' N' hd' => h h' o' _ F' N' ⟨_, hd', ?_⟩
  rw [← putD_mapB]
  exact FlatPairs.stored (fun a b => same_int a b) hf k (Flat.bool true)
theorem i_set {G : Obj → Ledger} {M : List (Int × Int)} {k x : Int} {t u : Tok} {Q : Unit → Shared → Prop} (F : Fr h₀ L s.heap m) (N : News h₀ L s.heap news) (U : UpdF d o news G) (g : IObj prog w o M) (hz : M.length ≤ 1000)
    (h : ∀ h' o' tk, Fr h₀ L h' m → News h₀ L h' (G o') → IObj prog w o' (put M k x) → Q () { s with heap := h', toks := tk }) : wpAny (model prog w) A (setItem (.ref d) (.int k t) (.int x u)) Q E s := by
  obtain ⟨kvs, ho, hf⟩ := g
  have hlen := (flat_of hf).1
  refine kda_set (knd := intKind prog w) F N U ho (intKind_is _ _ _ _) (by rw [sizeLine_eq]; omega) fun h' o' F' N' hd' => h h' o' _ F' N' ⟨_, hd', ?_⟩
  rw [← putD_mapD]
  exact FlatPairs.stored (fun a b => same_int a b) hf k (Flat.int x u)
end
theorem reg20 : True := by
  k_with "setItem ref int" => (k_here; k_dflt (first | (refine' b_set ?zF ?zN ?zU ?zg ?zhz ?_; (case zF => k_asm); (case zN => k_asm); (case zU => k_updF); (case zg => assumption); (case zhz => omega)) | (refine' i_set ?zF ?zN ?zU ?zg ?zhz ?_; (case zF => k_asm); (case zN => k_asm); (case zU => k_updF); (case zg => assumption); (case zhz => omega))); intros)
  k_with "call builtin:sorted cons nil" => (k_here; k_dflt (refine' sorted_bdict ?zhh ?zF ?zN ?zhm ?zhd ?zlo ?zh64 ?_; (case zhh => exact rfl); (case zF => k_asm); (case zN => k_asm); (case zhm => k_mem); (case zhd => assumption); (case zlo => assumption); (case zh64 => assumption); intros; (rename_i l1 _; k_lt l1; revert l1; intros); (have hn9 := IntsAre.length ‹IntsAre _ _›); (rw [srt_length] at hn9); revert hn9; intros))
  trivial
theorem covof_call {w : World} {A : Around} {h₀ : Heap} {L : Addr} {m : Str → Option Value} {s : Shared} {news sym : Ledger} {G : Ledger → Ledger} {g : Addr} {vs : List Value} {ns : List Int} {k : Nat} {Q E : Value → Shared → Prop}
   (cx : Cx w A h₀ L m s news 5 160) (hG : ∀ tl, Mv tl sym news (G tl)) (hg : (g, ({ cls := .type "list", data := .seq vs.toArray k } : Obj)) ∈ news) (hi : IntsAre vs ns) (h64 : ns.length < 64)
   (ret : ∀ x' h' tk' tl, Cov tl x' (srt (ns.foldl addk [])) → Above news tl → Fr h₀ L h' m → News h₀ L h' (G tl) → Q (.ref x') { s with heap := h', toks := tk' }) :
   wpAny (model Challenge.rw_pb0171_01.row.toRowW.prog w) A (call (.ref 122) [.ref g]) Q E s := by
  have hil := hi.length
  walk_at "ENTER"
  k_steps
  have hb : BObj Challenge.rw_pb0171_01.row.prog w _ [] := ⟨[], by assumption, .nil⟩
  k_dflt (refine' ForSrc.of (σ := Obj) (fun o => (_, o) :: news) (fun _ => []) [] (fun i o => BObj Challenge.rw_pb0171_01.row.prog w o ((ns.take i).foldl addk [])) _ (by assumption) (by assumption) (iters_list rfl (by assumption) (.tail _ hg)) ?hS ?hk hb ?turn ?done)
  case hS => exact fun _ _ _ => .tail _ hg
  case hk => kst_all
  case turn =>
    intro i o v u h tk I oI hlt hb hP F' N' off
    obtain ⟨k, tk', e1, rfl⟩ := intsAt hi hP
    have hz : ((ns.take i).foldl addk []).length ≤ 1000 := by have := addk_len (ns.take i) []; simp at this; omega
    rw [foldl_take _ _ _ _ _ e1]
    k_steps
    refine' fpost_next _ (by assumption) (by assumption) ?sub ?off ?hk ?hr ?j
    case j => assumption
    case sub => walk_at "SUB"
    case off => k_all
    case hk => kst_all
    case hr => walk_at "FSAME"
  case done =>
    intro o u h tk hb F' N'
    have hl : (ns.foldl addk []).length < 64 := by have := addk_len ns []; simp at this; omega
    rw [List.take_of_length_le (by simp [hil])] at hb
    k_steps
    refine' ret _ _ _ _ ?e1 ?e2 (by assumption) (news_spl (by assumption) ?e3 (hG _))
    case e3 => walk_at "SPL"
    case e1 => exact ⟨_, _, _, _, _, _, _, by k_mem, by k_mem, by k_mem, by assumption⟩
    case e2 => walk_at "ABOVE"
/-! B9 -/
theorem reg21 : True := by
  k_with "call ref" => (k_here; k_dflt (show wpAny _ _ (call (Value.ref 122) [Value.ref _]) _ _ _); k_dflt (refine' covof_call ?zcx ?zhG ?zhg ?zhi ?zh64 ?_; (case zcx => walk_at "CX"); (case zhG => intro tl'; walk_at "MV"); (case zhg => k_mem); (case zhi => assumption); (case zh64 => assumption); intros))
  trivial
noncomputable def tcov (ns : List Int) (T : List (Int × Int)) : List Int := srt ((ns.filterMap (get T)).foldl addk [])
theorem intsSnoc {vs : List Value} {ns : List Int} (h : IntsAre vs ns) {k : Int} {t : Tok} : IntsAre (vs ++ [.int k t]) (ns ++ [k]) := by
  induction h with
  | nil => exact .cons k t .nil
  | cons a b _ ih => exact .cons a b ih
theorem turncov_call {w : World} {A : Around} {h₀ : Heap} {L : Addr} {m : Str → Option Value} {s : Shared} {news sym : Ledger} {G : Ledger → Ledger} {x d : Addr} {ns : List Int} {T : List (Int × Int)} {Q E : Value → Shared → Prop}
   (cx : Cx w A h₀ L m s news 7 240) (hG : ∀ tl, Mv tl sym news (G tl)) (hx : Cov news x ns) (hd : IDict Challenge.rw_pb0171_01.row.toRowW.prog w news d T) (h64 : ns.length < 64) 
   (ret : ∀ x' h' tk' tl, Cov tl x' (tcov ns T) → Above news tl → Fr h₀ L h' m → News h₀ L h' (G tl) → Q (.ref x') { s with heap := h', toks := tk' }) :
   wpAny (model Challenge.rw_pb0171_01.row.toRowW.prog w) A (call (.ref 127) [.ref x, .ref d]) Q E s := by
  refine Cov.elim hx ?_
  (try clear hx)
  intro dx t hh tt n k vs m1 m2 m3 hi
  have hil := hi.length
  walk_at "ENTERC"
  k_steps
  k_dflt (refine' src_growT (by assumption) (by assumption) (iters_tuple rfl (by assumption) (by k_mem)) ?sz (by k_mem) (fun i ys tl => tl = [] ∧ IntsAre ys ((ns.take i).filterMap (get T))) ?h0 ?turn ?fin)
  case sz => rw [sizeLine_eq]; simp only [List.size_toArray]; omega
  case h0 => exact ⟨rfl, .nil⟩
  case turn =>
    rintro i ys tl v I oI C oC D m₂ h tk E' hlt ha ⟨rfl, hr⟩ hP hC hx F' N' off ne
    obtain ⟨k, tk', e1, rfl⟩ := intsAt hi hP
    obtain ⟨o', m4, ⟨kvs', ho', hf'⟩, lo'⟩ := hd
    simp only [List.nil_append] at N' off
    have et : (ns.take (i + 1)).filterMap (get T) = (ns.take i).filterMap (get T) ++ (get T k).toList := by rw [List.take_add_one, e1, List.filterMap_append]; cases hg : get T k <;> simp [hg]
    cases hg : get T k with
    | none =>
      have hlk' : Spec.lookup (PyData.int k) (mapD T) = none := by rw [lookup_mapD, hg]; rfl
      k_steps
      · exact (isSome_none hlk' (by assumption)).elim
      · refine grow_end (tl := []) .nil ha ⟨rfl, ?_⟩
        rw [et, hg]; simpa using hr
    | some y =>
      have hlk' : Spec.lookup (PyData.int k) (mapD T) = some (PyData.int y) := by rw [lookup_mapD, hg]; rfl
      k_steps
      · (try (refine' comp_end (by assumption) (by assumption) ?st ?off ?hS ?r; (case st => walk_at "STRIP"); (case off => walk_at "OFF3"); (case hS => k_mem)))
        refine grow_end (tl := []) .nil ha ⟨rfl, ?_⟩
        rw [et, hg]; exact intsSnoc hr
      · exact (isSome_some hlk' (by assumption)).elim
  case fin =>
    rintro g ys tl ha ⟨rfl, hr⟩
    rw [List.take_of_length_le (by simp [hil])] at hr
    simp only [List.nil_append]
    have hl : (ns.filterMap (get T)).length < 64 := Nat.lt_of_le_of_lt (List.length_filterMap_le _ _) h64
    k_steps
    refine' ret _ _ _ _ ?e1 ?e2 (by assumption) (news_spl (by assumption) ?e3 (hG _))
    case e3 => walk_at "SPL"
    case e1 => exact Cov.mono (by assumption) (by walk_at "SUB")
    case e2 => walk_at "ABOVE"
/-! B10 -/
noncomputable abbrev PT : Type := List ((Int × Int) × (Int × Int))
noncomputable def pget : PT → Int × Int → Option (Int × Int)
  | [], _ => none
  | x :: r, k => if x.1 = k then some x.2 else pget r k
noncomputable def pput (P : PT) (k : Int × Int) (v : Int × Int) : PT := if (pget P k).isSome then P.map (fun x => if x.1 = k then (x.1, v) else x) else P ++ [(k, v)]
inductive PV (news : Ledger) : List GE → PT → Prop
  | nil : PV news [] []
  | cons {k : Int × Int} {a : Addr} {v : Value} {x : Int × Int} {D : List GE} {P : PT} : PairAt news v x.1 x.2 → PV news D P → PV news ((k, a, v) :: D) ((k, x) :: P)
theorem PV.mono {news news' : Ledger} {D : List GE} {P : PT} (h : PV news D P) (s : ∀ p ∈ news, p ∈ news') : PV news' D P := by
  induction h with
  | nil => exact .nil
  | cons a _ ih => exact .cons (a.mono s) ih
theorem PV.keys {news : Ledger} {D : List GE} {P : PT} (h : PV news D P) : gkeys D = P.map (·.1) := by
  induction h with
  | nil => rfl
  | cons _ _ ih => simp only [gkeys, List.map_cons] at *; rw [ih]
theorem PV.length {news : Ledger} {D : List GE} {P : PT} (h : PV news D P) : D.length = P.length := by
  induction h with
  | nil => rfl
  | cons _ _ ih => simp [ih]
theorem PV.get {news : Ledger} {D : List GE} {P : PT} (h : PV news D P) (k : Int × Int) : (gat D k = none ∧ pget P k = none) ∨ ∃ a v x, gat D k = some (a, v) ∧ pget P k = some x ∧ PairAt news v x.1 x.2 := by
  induction h with
  | nil => exact .inl ⟨rfl, rfl⟩
  | @cons k' a v x D P hp _ ih =>
    rw [show gat ((k', a, v) :: D) k = if k' = k then some (a, v) else gat D k from rfl, show pget ((k', x) :: P) k = if k' = k then some x else pget P k from rfl]
    by_cases e : k' = k
    · rw [if_pos e, if_pos e]; exact .inr ⟨a, v, x, rfl, rfl, hp⟩
    · rw [if_neg e, if_neg e]; exact ih
theorem PV.append {news : Ledger} {D D' : List GE} {P P' : PT} (h : PV news D P) (h' : PV news D' P') : PV news (D ++ D') (P ++ P') := by
  induction h with
  | nil => exact h'
  | cons a _ ih => exact .cons a ih
theorem PV.put {news : Ledger} {D : List GE} {P : PT} (h : PV news D P) (k : Int × Int) (a : Addr) {v : Value} {x : Int × Int} (hp : PairAt news v x.1 x.2) : PV news (gput D k a v) (pput P k x) := by
  have e : (gat D k).isSome = (pget P k).isSome := by
    rcases h.get k with ⟨h1, h2⟩ | ⟨_, _, _, h1, h2, _⟩ <;> rw [h1, h2] <;> rfl
  unfold gput pput
  rw [e]
  split
  · rename_i hs
    clear e hs
    induction h with
    | nil => exact .nil
    | @cons k' a' v' x' D P hp' _ ih =>
      simp only [List.map_cons]
      by_cases ek : k' = k
      · simp only [ek, if_true]; exact .cons hp (by simpa using ih)
      · simp only [ek, if_false]; exact .cons hp' (by simpa using ih)
  · exact h.append (.cons hp .nil)
theorem PV.at {news : Ledger} {D : List GE} {P : PT} (h : PV news D P) {i : Nat} {e : GE} (hi : D[i]? = some e) : ∃ x, P[i]? = some x ∧ PairAt news e.2.2 x.2.1 x.2.2 := by
  induction h generalizing i with
  | nil => simp at hi
  | cons hp _ ih =>
    cases i with
    | zero => simp at hi; subst hi; exact ⟨_, rfl, hp⟩
    | succ i => exact ih (by simpa using hi)
noncomputable def moves (P : PT) : Bool := P.any fun p => decide (p.2.2 ≠ 0)
section
variable {prog : Program} {w : World} {A : Around} {E : Value → Shared → Prop} {s : Shared} {h₀ : Heap} {L a b : Addr} {news : Ledger} {ys : List Value} {its : Array Value} {c c' : Nat} {Q : Value → Shared → Prop}
theorem ne_nil (N : News h₀ L s.heap news) (hm : (a, ({ cls := .type "list", data := .seq ys.toArray c } : Obj)) ∈ news) (hb : (b, ({ cls := .type "list", data := .seq its c' } : Obj)) ∈ news) (he : its = #[]) (hu : A.units < cLine)
    (h : Q (.bool (decide (ys ≠ []))) s) : wpAny (model prog w) A (compareOp .NotEq (.ref a) (.ref b)) Q E s := by
  subst he
  show wpAny (model prog w) A (richCompare .NotEq (.ref a) (.ref b)) Q E s
  have h1 : s.heap.IsList a ys.toArray := ⟨_, (N _ hm).1, rfl, _, rfl⟩
  have h2 : s.heap.IsList b #[] := ⟨_, (N _ hb).1, rfl, _, rfl⟩
  cases ys with
  | nil => exact PySem.SeqAt.RcNeAt.lists (e := fun _ => true) h1 h2 rfl hu (fun j hj => by simp at hj) prog w E Q (by simpa using h)
  | cons y r => exact PySem.SeqAt.RcNeAt.lists_lengths h1 h2 (by simp) hu prog w E Q (by simpa using h)
end
theorem reg22 : True := by
  k_with "compareOp NotEq ref ref" => (k_here; k_dflt (refine' ne_nil ?zN ?zhm ?zhb ?zhe ?zhu ?_; (case zN => k_asm); (case zhm => k_mem); (case zhb => k_mem); (case zhe => exact rfl); (case zhu => ke_room)))
  trivial
theorem gobj_val {prog : Program} {w : World} {news : Ledger} {es : Array DictEntry} {D : List GE} (h : es.toList = (D.map lk).map (entryOfKey (GK prog w))) : es.size = D.length ∧ ∀ (i : Nat) (e : DictEntry), es[i]? = some e → ∃ x, D[i]? = some x ∧ e.val = x.2.2 := by
  refine ⟨by have := congrArg List.length h; simpa using this, fun i e he => ?_⟩
  have he' : es.toList[i]? = some e := by rw [Array.getElem?_toList]; exact he
  rw [h, List.map_map, List.getElem?_map] at he'
  cases hD : D[i]? with
  | none => rw [hD] at he'; simp at he'
  | some x =>
    rw [hD] at he'
    simp only [Option.map_some, Option.some.injEq] at he'
    subst he'
    exact ⟨x, rfl, rfl⟩
theorem moves_values {w : World} {A : Around} {h₀ : Heap} {L : Addr} {m : Str → Option Value} {s : Shared} {news : Ledger} {v d : Addr} {o : Obj} {D : List GE} {P : PT} {Q E : Value → Shared → Prop}
   (cx : Cx w A h₀ L m s news 5 160) (hv : (v, ({ cls := .type "dict_values", data := .fields #[.ref d] } : Obj)) ∈ news) (hd : (d, o) ∈ news) (hg : GObj Challenge.rw_pb0171_01.row.toRowW.prog w news o D) (hp : PV news D P) (h64 : P.length < 64)
   (ret : ∀ h' tk', Fr h₀ L h' m → News h₀ L h' news → Q (.bool (moves P)) { s with heap := h', toks := tk' }) :
   wpAny (model Challenge.rw_pb0171_01.row.toRowW.prog w) A (call (.ref 139) [.ref v]) Q E s := by
  obtain ⟨es, ep, hc, hdd, hes, _, _⟩ := hg
  obtain ⟨hsz, hval⟩ := gobj_val (news := news) hes
  have hpl := hp.length
  walk_at "ENTER"
  k_steps
  k_dflt (refine' src_growT (by assumption) (by assumption) (iters_values rfl (by assumption) hv hd hc.1 hdd) ?sz (by k_mem) (fun i ys tl => tl = [] ∧ ys.length ≤ i ∧ (decide (ys ≠ []) = moves (P.take i))) ?h0 ?turn ?fin)
  case sz => rw [sizeLine_eq]; omega
  case h0 => exact ⟨rfl, Nat.le_refl _, rfl⟩
  case turn =>
    rintro i ys tl v I oI C oC D m₂ h tk E' hlt ha ⟨rfl, hr⟩ hP hC hx F' N' off ne
    obtain ⟨en, he, rfl⟩ := hP
    obtain ⟨x, hD, ev⟩ := hval _ _ he
    obtain ⟨y, hPi, hpa⟩ := hp.at hD
    rw [ev] at hx
    generalize x.2.2 = vv at hpa hx
    refine PairAt.elim hpa ?_
    (try clear hpa)
    intro z x1 x2 nn e9 hm v1 v2
    subst e9
    have v2' := v2
    refine ValAt.elim v2' ?_
    (try clear v2')
    intro dy g1 g2 g3 g4 s1 s2 s3 s4 r1 r2 r3 r4 k m3 m4
    simp only [List.nil_append] at N' off
    have em : moves (P.take (i + 1)) = (moves (P.take i) || decide (y.2.2 ≠ 0)) := by unfold moves; rw [List.take_add_one, hPi, List.any_append]; simp
    k_steps
    · refine grow_end (tl := []) .nil ha ⟨rfl, by omega, ?_⟩
      rw [em, hr.2, decide_eq_false (not_not_intro ‹y.2.2 = 0›), Bool.or_false]
    · (try walk_at "CompEnd")
      refine grow_end (tl := []) .nil ha ⟨rfl, by simp; omega, ?_⟩
      rw [em, decide_eq_true ‹¬ y.2.2 = 0›, Bool.or_true]
      simp
  case fin =>
    rintro g ys tl ha ⟨rfl, hl, hr⟩
    rw [List.take_of_length_le (by omega)] at hr
    simp only [List.nil_append]
    k_steps
    rw [hr]
    exact ret _ _ (by assumption) (by walk_at "DROP")
/-- pairs in a list -/
inductive PL (news : Ledger) : List Value → List (Int × Int) → Prop
  | nil : PL news [] []
  | cons {v : Value} {x : Int × Int} {vs : List Value} {xs : List (Int × Int)} : PairAt news v x.1 x.2 → PL news vs xs → PL news (v :: vs) (x :: xs)
theorem PL.mono {news news' : Ledger} {vs : List Value} {xs : List (Int × Int)} (h : PL news vs xs) (s : ∀ p ∈ news, p ∈ news') : PL news' vs xs := by
  induction h with
  | nil => exact .nil
  | cons a _ ih => exact .cons (a.mono s) ih
theorem PL.length {news : Ledger} {vs : List Value} {xs : List (Int × Int)} (h : PL news vs xs) : vs.length = xs.length := by
  induction h with
  | nil => rfl
  | cons _ _ ih => simp [ih]
theorem PL.at {news : Ledger} {vs : List Value} {xs : List (Int × Int)} (h : PL news vs xs) {i : Nat} {v : Value} (e : vs.toArray[i]? = some v) : ∃ x, xs[i]? = some x ∧ PairAt news v x.1 x.2 := by
  induction h generalizing i with
  | nil => simp at e
  | cons a _ ih =>
    cases i with
    | zero => simp at e; subst e; exact ⟨_, rfl, a⟩
    | succ i => simp at e; exact ih (by simpa using e)
noncomputable def movesL (P : List (Int × Int)) : Bool := P.any fun p => decide (p.2 ≠ 0)
theorem moves_list {w : World} {A : Around} {h₀ : Heap} {L : Addr} {m : Str → Option Value} {s : Shared} {news : Ledger} {v : Addr} {vs : List Value} {n : Nat} {P : List (Int × Int)} {Q E : Value → Shared → Prop}
   (cx : Cx w A h₀ L m s news 5 160) (hv : (v, ({ cls := .type "list", data := .seq vs.toArray n } : Obj)) ∈ news) (hp : PL news vs P) (h64 : P.length < 64)
   (ret : ∀ h' tk', Fr h₀ L h' m → News h₀ L h' news → Q (.bool (movesL P)) { s with heap := h', toks := tk' }) :
   wpAny (model Challenge.rw_pb0171_01.row.toRowW.prog w) A (call (.ref 139) [.ref v]) Q E s := by
  have hpl := hp.length
  walk_at "ENTER"
  k_steps
  k_dflt (refine' src_growT (by assumption) (by assumption) (iters_list rfl (by assumption) hv) ?sz (by k_mem) (fun i ys tl => tl = [] ∧ ys.length ≤ i ∧ (decide (ys ≠ []) = movesL (P.take i))) ?h0 ?turn ?fin)
  case sz => rw [sizeLine_eq, List.size_toArray]; omega
  case h0 => exact ⟨rfl, Nat.le_refl _, rfl⟩
  case turn =>
    rintro i ys tl v I oI C oC D m₂ h tk E' hlt ha ⟨rfl, hr⟩ hP hC hx F' N' off ne
    obtain ⟨y, hPi, hpa⟩ := hp.at hP
    clear hP
    refine PairAt.elim hpa ?_
    (try clear hpa)
    intro z x1 x2 nn e9 hm v1 v2
    subst e9
    have v2' := v2
    refine ValAt.elim v2' ?_
    (try clear v2')
    intro dy g1 g2 g3 g4 s1 s2 s3 s4 r1 r2 r3 r4 k m3 m4
    simp only [List.nil_append] at N' off
    have em : movesL (P.take (i + 1)) = (movesL (P.take i) || decide (y.2 ≠ 0)) := by unfold movesL; rw [List.take_add_one, hPi, List.any_append]; simp
    k_steps
    · refine grow_end (tl := []) .nil ha ⟨rfl, by omega, ?_⟩
      rw [em, hr.2, decide_eq_false (not_not_intro ‹y.2 = 0›), Bool.or_false]
    · (try walk_at "CompEnd")
      refine grow_end (tl := []) .nil ha ⟨rfl, by simp; omega, ?_⟩
      rw [em, decide_eq_true ‹¬ y.2 = 0›, Bool.or_true]
      simp
  case fin =>
    rintro g ys tl ha ⟨rfl, hl, hr⟩
    rw [List.take_of_length_le (by simp; omega)] at hr
    simp only [List.nil_append]
    k_steps
    rw [hr]
    exact ret _ _ (by assumption) (by walk_at "DROP")
/-! B11 -/
theorem reg23 : True := by
  k_with "SUB" => first | (intro p hp; k_ownIn) | kcf_all
  trivial
noncomputable def PG (prog : Program) (w : World) (news : Ledger) (x : Addr) (P : PT) (b : Bool) : Prop := ∃ (dx d : Addr) (h1 h2 : Int) (t1 t2 : Tok) (n : Nat) (o : Obj) (D : List GE), (x, instObj 169 dx) ∈ news ∧ (dx, dictOf [⟨h1, .str "pairs" t1, .ref d⟩, ⟨h2, .str "is_second" t2, .bool b⟩] n) ∈ news ∧ (d, o) ∈ news ∧ GObj prog w news o D ∧ PV news D P ∧ (d == sysModules) = false
theorem PG.elim {prog : Program} {w : World} {news : Ledger} {x : Addr} {P : PT} {b : Bool} {motive : Prop} (h : PG prog w news x P b)
    (k : ∀ (dx d : Addr) (h1 h2 : Int) (t1 t2 : Tok) (n : Nat) (o : Obj) (D : List GE), (x, instObj 169 dx) ∈ news → (dx, dictOf [⟨h1, .str "pairs" t1, .ref d⟩, ⟨h2, .str "is_second" t2, .bool b⟩] n) ∈ news → (d, o) ∈ news → GObj prog w news o D → PV news D P → (d == sysModules) = false → motive) : motive := by
  obtain ⟨dx, d, h1, h2, t1, t2, n, o, D, m1, m2, m3, g, p, l⟩ := h
  exact k dx d h1 h2 t1 t2 n o D m1 m2 m3 g p l
theorem PG.mono {prog : Program} {w : World} {news news' : Ledger} {x : Addr} {P : PT} {b : Bool} (h : PG prog w news x P b) (s : ∀ p ∈ news, p ∈ news') : PG prog w news' x P b := by
  obtain ⟨dx, d, h1, h2, t1, t2, n, o, D, m1, m2, m3, g, p, l⟩ := h
  exact ⟨dx, d, h1, h2, t1, t2, n, o, D, s _ m1, s _ m2, s _ m3, g.mono s, p.mono s, l⟩
theorem reg24 : True := by
  k_with "call ref" => (k_here; k_dflt (show wpAny _ _ (call (Value.ref 139) [Value.ref _]) _ _ _); k_dflt (refine' moves_values ?zcx ?zhv ?zhd ?zhg ?zhp ?zh64 ?_; (case zcx => walk_at "CX"); (case zhv => k_mem); (case zhd => k_mem); (case zhg => refine GObj.mono (by assumption) ?_; walk_at "SUB"); (case zhp => refine PV.mono (by assumption) ?_; walk_at "SUB"); (case zh64 => assumption); intros))
  trivial
section
variable {prog : Program} {w : World} {A : Around} {E : Value → Shared → Prop} {s : Shared} {h₀ : Heap} {L d : Addr} {news full : Ledger} {o : Obj} {D : List GE}
theorem g_method {name : Str} {id : String} {pl : Sem Bool} {Q : Value × List Value → Shared → Prop} (slot : Slot "dict" name id) (ty : typeOf (.builtin id) = pure (.type "method_descriptor")) (N : News h₀ L s.heap full) (hp : (d, o) ∈ full) (g : GObj prog w news o D) (h : Q (.builtin id, [.ref d]) s) :
    wpAny (model prog w) A (getMethod (.ref d) name pl) Q E s := by
  obtain ⟨es, ep, hc, _⟩ := g
  exact getMethod_builtin (T := "dict") ⟨_, (N _ hp).1, hc.1⟩ PySem.F.plainAttrs_dict slot ty (fun a e => by cases e; exact ⟨_, (N _ hp).1, hc.2.1⟩) h
theorem raw_values_call {Q : Value → Shared → Prop} (lo : (d == sysModules) = false) (hT : s.TypeIs (.ref d) "dict")
    (h : Q (.ref s.heap.objs.size) { s with heap := s.heap.push { cls := .type "dict_values", data := .fields #[.ref d] } }) : wpAny (model prog w) A (call (.builtin "dict.values") [.ref d]) Q E s := by
  refine call_meetsIn (S := fun _ R s => s.TypeIs (.ref d) "dict" ∧ R (.ok (.ret (.ref s.heap.objs.size))) { s with heap := s.heap.push { cls := .type "dict_values", data := .fields #[.ref d] } }) PySem.F.slot_dict_values hT PySem.F.entry_dict_values (PySem.F.args_dict_values_1 _) (.of_wp fun A R s ⟨hm, h⟩ => ?_) ⟨hT, h⟩
  refine wpAny_bind ?_
  unfold Builtin.Dict.noArgs
  refine wpAny_bind (wpAny_notOrdered_dict hm ?_)
  show wpAny _ _ (pure d) _ _ s
  refine wpAny_pure ?_
  show wpAny _ _ (Builtin.Dict.showsAll d >>= _) _ _ s
  unfold Builtin.Dict.showsAll
  rw [if_neg (by rw [lo]; exact Bool.false_ne_true)]
  refine wpAny_bind (wpAny_pure ?_)
  exact wpAny_bind (wpAny_newObj_type (wpAny_pure ⟨_, rfl, h⟩))
theorem g_values {m : Str → Option Value} {Q : Value → Shared → Prop} (F : Fr h₀ L s.heap m) (N : News h₀ L s.heap full) (lo : (d == sysModules) = false) (hp : (d, o) ∈ full) (g : GObj prog w news o D)
    (h : ∀ (B : Addr) h', Fr h₀ L h' m → News h₀ L h' ((B, { cls := .type "dict_values", data := .fields #[.ref d] }) :: full) → (∀ q ∈ full, q.1 < B) → Q (.ref B) { s with heap := h' }) :
    wpAny (model prog w) A (call (.builtin "dict.values") [.ref d]) Q E s := by
  obtain ⟨es, ep, hc, _⟩ := g
  exact raw_values_call lo ⟨_, (N _ hp).1, hc.1⟩ (h _ _ (F.push _) (News.push F N _) fun q hq => Heap.lt_size (N q hq).1)
end
theorem reg25 : True := by
  k_with "getMethod ref" => (k_here; k_dflt (first | ((with_reducible show wpAny _ _ (getMethod (Value.ref _) (Str.ofString "get") _) _ _ _); refine' g_method PySem.F.slot_dict_get PySem.F.type_dict_get ?zN ?zhm ?zg ?_; (case zN => k_asm); (case zhm => k_mem); (case zg => assumption)) | ((with_reducible show wpAny _ _ (getMethod (Value.ref _) (Str.ofString "values") _) _ _ _); refine' g_method PySem.F.slot_dict_values PySem.F.type_dict_values ?zN ?zhm ?zg ?_; (case zN => k_asm); (case zhm => k_mem); (case zg => assumption))))
  k_with "call builtin:dict.values" => (k_here; k_dflt (refine' g_values ?zF ?zN ?zlo ?zhm ?zg ?_; (case zF => k_asm); (case zN => k_asm); (case zlo => assumption); (case zhm => k_mem); (case zg => assumption)); intros; (rename_i l1; k_lt l1; revert l1; intros))
  k_with "call builtin:dict.get" => (k_here; k_dflt (refine' g_get (k := (_, _)) ?zN ?zhu ?zlo ?zsub ?zhm ?zg ?zht ?_; (case zN => k_asm); (case zhu => ke_room); (case zlo => assumption); (case zhm => k_mem); (case zg => assumption); (case zsub => walk_at "SUB"); (case zht => exact ⟨_, _, _, _, rfl, by k_mem⟩); intros))
  trivial
noncomputable def valD : Option (Int × Int) → Dat | none => .none | some x => pairD x.1 x.2
theorem pg_find {w : World} {A : Around} {h₀ : Heap} {L : Addr} {m : Str → Option Value} {s : Shared} {news : Ledger} {x : Addr} {P : PT} {b : Bool} {a c : Int} {ta tc : Tok} {Q E : Value → Shared → Prop}
   (cx : Cx w A h₀ L m s news 9 300) (hx : PG Challenge.rw_pb0171_01.row.toRowW.prog w news x P b)
   (ret : ∀ v h' tk', ((pget P (a, c) = none ∧ v = .none) ∨ ∃ z, pget P (a, c) = some z ∧ PairAt news v z.1 z.2) → Fr h₀ L h' m → News h₀ L h' news → Q v { s with heap := h', toks := tk' }) :
   wpAny (model Challenge.rw_pb0171_01.row.toRowW.prog w) A (call (.ref 161) [.ref x, .int a ta, .int c tc]) Q E s := by
  refine PG.elim hx ?_
  (try clear hx)
  intro dx d h1 h2 t1 t2 n o D m1 m2 m3 g p lo
  walk_at "ENTER"
  k_steps
  refine ret _ _ _ ?_ (by assumption) (by walk_at "DROP")
  rcases p.get (a, c) with ⟨e1, e2⟩ | ⟨a', v', z, e1, e2, e3⟩
  · exact .inl ⟨e2, by rw [e1]; rfl⟩
  · exact .inr ⟨z, e2, by rw [e1]; exact e3⟩
/-! the told of a table of pairs of glyphs -/
noncomputable def sortk (l : List (Int × Int)) : List (Int × Int) := (srt (l.map code)).map fun c => (c / 1000, c % 1000)
theorem sortk_eq {ks l : List (Int × Int)} (p : ks.Perm l) (s : ks.Pairwise fun a b => code a < code b) (hs : ∀ k ∈ l, Small k) : ks = sortk l := by
  have e : ks.map code = srt (l.map code) := srt_eq (p.map code) (by rw [List.pairwise_map]; exact s.imp fun h => by omega)
  unfold sortk
  rw [← e, List.map_map]
  have : ∀ k ∈ ks, k = ((fun c : Int => (c / 1000, c % 1000)) ∘ code) k := by
    intro k hk
    obtain ⟨a, b⟩ := k
    obtain ⟨h1, h2, h3, h4⟩ := hs _ (p.mem_iff.mp hk)
    simp only [Function.comp, code, Prod.mk.injEq]
    simp only at h1 h2 h3 h4
    omega
  conv => lhs; rw [← List.map_id ks]
  exact List.map_congr_left this
noncomputable def rowD (P : PT) (k : Int × Int) : Dat := .tuple [tupI [k.1, k.2], pairD ((pget P k).getD (0, 0)).1 ((pget P k).getD (0, 0)).2]
noncomputable def toldG (P : PT) (b : Bool) : Dat := .tuple [.str "glyphs", .bool b, .tuple ((sortk (P.map (·.1))).map (rowD P))]
theorem tupAt_dat {news : Ledger} {v : Value} {k : Int × Int} (h : TupAt news v k) : DatIn news v (tupI [k.1, k.2]) := by
  obtain ⟨a, t, u, n, rfl, m⟩ := h
  exact .tuple m (.cons (.int _ _) (.cons (.int _ _) .nil))
theorem Tups.at' {news : Ledger} {vs : List Value} {ks : List (Int × Int)} (h : Tups news vs ks) {i : Nat} {v : Value} (e : vs.toArray[i]? = some v) : ∃ k, ks[i]? = some k ∧ TupAt news v k := by
  induction h generalizing i with
  | nil => simp at e
  | cons a _ ih =>
    cases i with
    | zero => simp at e; subst e; exact ⟨_, rfl, a⟩
    | succ i => simp at e; exact ih (by simpa using e)
theorem gat_of_key {D : List GE} {k : Int × Int} (h : k ∈ gkeys D) : ∃ p, gat D k = some p := by
  induction D with
  | nil => simp [gkeys] at h
  | cons x r ih =>
    rw [show gat (x :: r) k = if x.1 = k then some x.2 else gat r k from rfl]
    by_cases e : x.1 = k
    · exact ⟨_, if_pos e⟩
    · rw [if_neg e]
      refine ih ?_
      rcases List.mem_cons.mp h with h | h
      · exact absurd h.symm e
      · exact h
theorem reg26 : True := by
  k_with "call builtin:sorted cons nil" => (k_here; k_dflt (refine' g_sorted ?zhh ?zF ?zN ?zlo ?zsub ?zhm ?zg ?zhb ?zh64 ?_; (case zhh => exact rfl); (case zF => k_asm); (case zN => k_asm); (case zlo => assumption); (case zhm => k_mem); (case zg => assumption); (case zsub => walk_at "SUB"); (case zhb => assumption); (case zh64 => assumption); intros; (rename_i l1 _ _ _; k_lt l1; revert l1; intros); (have _ := Tups.length ‹Tups _ _ _›)))
  k_with "subscriptTail" => (k_here; (with_reducible show wpAny _ _ (subscriptTail _ _ (Value.ref _) (Value.ref _)) _ _ _); k_dflt (refine' g_item ?zN ?zhu ?zsub ?zhm ?zg ?zht ?zhp ?_ ?zhs; (case zN => k_asm); (case zhu => ke_room); (case zhm => k_mem); (case zg => assumption); (case zhp => assumption); (case zsub => walk_at "SUB"); (case zht => refine TupAt.mono (by assumption) ?_; walk_at "SUB"); (case zhs => with_unfolding_all rfl); intros))
  k_with "call ref" => (k_here; k_dflt (show wpAny _ _ (call (Value.ref 134) [_]) _ _ _); k_dflt (refine' ptold_call ?zcx ?zhG ?zhv ?_; (case zcx => walk_at "CX"); (case zhG => intro tl'; walk_at "MV"); (case zhv => refine PairAt.mono (by assumption) ?_; walk_at "SUB"); intros))
  trivial
theorem pg_told {w : World} {A : Around} {h₀ : Heap} {L : Addr} {m : Str → Option Value} {s : Shared} {news sym : Ledger} {G : Ledger → Ledger} {x : Addr} {P : PT} {b : Bool} {Q E : Value → Shared → Prop}
   (cx : Cx w A h₀ L m s news 9 300) (hG : ∀ tl, Mv tl sym news (G tl)) (hx : PG Challenge.rw_pb0171_01.row.toRowW.prog w news x P b) (h64 : P.length < 64) (hsm : ∀ p ∈ P, Small p.1)
   (ret : ∀ v h' tk' tl, DatIn (tl ++ news) v (toldG P b) → Above news tl → Fr h₀ L h' m → News h₀ L h' (G tl) → Q v { s with heap := h', toks := tk' }) :
   wpAny (model Challenge.rw_pb0171_01.row.toRowW.prog w) A (call (.ref 166) [.ref x]) Q E s := by
  refine PG.elim hx ?_
  (try clear hx)
  intro dx d h1 h2 t1 t2 n o D m1 m2 m3 g p lo
  have hb : ∀ y ∈ D, Small y.1 := fun y hy => by
    have : y.1 ∈ gkeys D := List.mem_map_of_mem hy
    rw [p.keys] at this
    obtain ⟨q, hq, e⟩ := List.mem_map.mp this
    exact e ▸ hsm q hq
  have hd64 : D.length < 64 := by rw [p.length]; exact h64
  walk_at "ENTERC"
  k_steps
  rename Tups _ _ _ => ht
  rename List.Perm _ _ => hpm
  rename List.Pairwise _ _ => hps
  have hks := sortk_eq (l := P.map (·.1)) (by rw [← p.keys]; exact hpm) hps (fun k hk => by obtain ⟨q, hq, e⟩ := List.mem_map.mp hk; exact e ▸ hsm q hq)
  have hkl : (sortk (P.map (·.1))).length = P.length := by rw [← hks, hpm.length_eq, p.keys, List.length_map]
  subst hks
  k_dflt (refine' src_grow (by assumption) (by assumption) (iters_list rfl (by assumption) (.head _)) ?sz (.head _) (fun i ys tl => DatAll (tl ++ news) ys (((sortk (P.map (·.1))).map (rowD P)).take i)) ?h0 ?turn ?fin)
  case sz => rw [sizeLine_eq]; simp only [List.size_toArray]; omega
  case h0 => exact .nil
  case turn =>
    intro i ys tl v I oI C oC D' m₂ h tk E' hlt ha hr hP hC hx F' N' off ne
    obtain ⟨k, e1, hk⟩ := ht.at' hP
    have hkd := tupAt_dat hk
    obtain ⟨q, hq⟩ := gat_of_key (hpm.mem_iff.mp (List.mem_of_getElem? e1))
    rcases p.get k with ⟨e2, _⟩ | ⟨a', v', z, e2, e3, e4⟩
    · rw [hq] at e2; cases e2
    obtain ⟨ka, kt, ku, kn, rfl, hkm⟩ := id hk
    k_steps
    walk_at "GROW"
    refine datTake (d := rowD P k) hr (by simp [e1]) (by walk_at "SUB") ?_
    have ez : (pget P k).getD (0, 0) = z := by rw [e3]; rfl
    unfold rowD
    rw [ez]
    refine .tuple (by k_mem) (.cons (hkd.mono (by walk_at "SUB")) (.cons ?_ .nil))
    walk_at "DAT"
  case fin =>
    intro g' ys tl ha hr
    have hyl : ys.length ≤ 64 := by have := hr.length; simp at this; omega
    k_steps
    refine' ret _ _ _ _ ?e1 ?e2 (by assumption) (news_spl (by assumption) ?e3 (hG _))
    case e3 => walk_at "SPL"
    case e1 => exact .tuple (by k_mem) (.cons (.str _ _) (.cons (.bool _) (.cons (.tuple (by k_mem) ((datEnd hr (by simp [ht.length, hkl])).mono (by walk_at "SUB"))) .nil)))
    case e2 => walk_at "ABOVE"
/-! B12 -/
noncomputable def trow (k : Int × Int) (T : List (Int × Int)) : Option (Int × Int) := match get T k.1, get T k.2 with | some a, some b => some (a, b) | _, _ => none
theorem turnrow_call {w : World} {A : Around} {h₀ : Heap} {L : Addr} {m : Str → Option Value} {s : Shared} {news sym : Ledger} {G : Ledger → Ledger} {t d : Addr} {k : Int × Int} {T : List (Int × Int)} {Q E : Value → Shared → Prop}
   (cx : Cx w A h₀ L m s news 7 240) (hG : ∀ tl, Mv tl sym news (G tl)) (ht : TupAt news (.ref t) k) (hd : IDict Challenge.rw_pb0171_01.row.toRowW.prog w news d T)
   (ret : ∀ v h' tk' tl, ((trow k T = none ∧ v = .none) ∨ ∃ z, trow k T = some z ∧ TupAt tl v z) → Above news tl → Fr h₀ L h' m → News h₀ L h' (G tl) → Q v { s with heap := h', toks := tk' }) :
   wpAny (model Challenge.rw_pb0171_01.row.toRowW.prog w) A (call (.ref 210) [.ref t, .ref d]) Q E s := by
  obtain ⟨a0, tt, tu, tn, e0, hm⟩ := ht
  injection e0 with e0
  subst e0
  have hi : IntsAre [.int k.1 tt, .int k.2 tu] [k.1, k.2] := .cons _ _ (.cons _ _ .nil)
  have hm' : (t, ({ cls := .type "tuple", data := .seq [Value.int k.1 tt, .int k.2 tu].toArray tn } : Obj)) ∈ news := hm
  obtain ⟨o', m4, ⟨kvs', ho', hf'⟩, lo'⟩ := hd
  walk_at "ENTERC"
  k_steps
  k_dflt (refine' ForSrc.of (σ := Unit) (fun _ => _) (fun _ => []) [] (fun i _ => ∀ g ∈ [k.1, k.2].take i, ∃ y, get T g = some y) () (by assumption) (by assumption) (iters_tuple rfl (by assumption) (.tail _ hm')) ?hS ?hk ?h0 ?turn ?done)
  case hS => exact fun _ _ _ => .tail _ hm'
  case hk => kst_all
  case h0 => intro g hg; simp at hg
  case turn =>
    intro i _ v u h tk I oI hlt hall hP F' N' off
    obtain ⟨g, tk', e1, rfl⟩ := intsAt hi hP
    have hmem : g ∈ [k.1, k.2] := List.mem_of_getElem? e1
    cases hg : get T g with
    | none =>
      have hlk' : Spec.lookup (PyData.int g) (mapD T) = none := by rw [lookup_mapD, hg]; rfl
      have hnone : trow k T = none := by
        unfold trow
        simp only [List.mem_cons, List.not_mem_nil, or_false] at hmem
        rcases hmem with e | e
        · rw [← e, hg]
        · rw [← e, hg]; cases get T k.1 <;> rfl
      k_steps
      · exact (isSome_none hlk' (by assumption)).elim
      · dsimp only [FPost]
        k_steps
        refine' ret _ _ _ _ (.inl ⟨hnone, rfl⟩) ?e2 (by assumption) (news_spl (by assumption) ?e3 (hG _))
        case e3 => walk_at "SPL"
        case e2 => walk_at "ABOVE"
    | some y =>
      have hlk' : Spec.lookup (PyData.int g) (mapD T) = some (PyData.int y) := by rw [lookup_mapD, hg]; rfl
      k_steps
      · refine' fpost_next () (by assumption) (by assumption) ?sub ?off ?hk ?hr ?j
        case j =>
          intro g' hg'
          rw [List.take_add_one, e1] at hg'
          rcases List.mem_append.mp hg' with h | h
          · exact hall _ h
          · simp at h; subst h; exact ⟨y, hg⟩
        case sub => walk_at "SUB"
        case off => exact off
        case hk => kst_all
        case hr => walk_at "FSAME"
      · exact (isSome_some hlk' (by assumption)).elim
  case done =>
    intro _ u h tk hall F' N'
    have hall2 : ∃ y1 y2, get T k.1 = some y1 ∧ get T k.2 = some y2 := by
      obtain ⟨y1, e1⟩ := hall k.1 (by simp)
      obtain ⟨y2, e2⟩ := hall k.2 (by simp)
      exact ⟨y1, y2, e1, e2⟩
    obtain ⟨y1, y2, g1, g2⟩ := hall2
    k_steps
    k_dflt (refine' src_grow (by assumption) (by assumption) (iters_tuple rfl (by assumption) (.tail _ hm')) ?sz (.tail _ hm') (fun i ys tl => tl = [] ∧ IntsAre ys (([k.1, k.2].take i).map fun g => (get T g).getD 0)) ?h0 ?turn ?fin)
    case sz => exact Nat.le_of_ble_eq_true rfl
    case h0 => exact ⟨rfl, .nil⟩
    case turn =>
      rintro i ys tl v I oI C oC D m₂ h tk E' hlt ha ⟨rfl, hr⟩ hP hC hx F' N' off ne
      obtain ⟨g, tk', e1, rfl⟩ := intsAt hi hP
      have hmem : g ∈ [k.1, k.2] := List.mem_of_getElem? e1
      obtain ⟨y, hg⟩ := hall g hmem
      have hlk' : Spec.lookup (PyData.int g) (mapD T) = some (PyData.int y) := by rw [lookup_mapD, hg]; rfl
      simp only [List.nil_append] at N' off
      k_steps
      refine grow_end (tl := []) .nil ha ⟨rfl, ?_⟩
      rw [List.take_add_one, e1, List.map_append]
      simp only [Option.toList_some, List.map_cons, List.map_nil, hg, Option.getD_some]
      exact intsSnoc hr
    case fin =>
      rintro g ys tl ha ⟨rfl, hr⟩
      simp only [List.nil_append]
      have hyl : ys.length ≤ 64 := by have := hr.length; simp at this; omega
      k_steps
      have hr2 : IntsAre ys [y1, y2] := by simpa [g1, g2] using hr
      cases hr2 with
      | cons _ ta r2 =>
        cases r2 with
        | cons _ tb r3 =>
          cases r3
          refine' ret _ _ _ _ (.inr ⟨(y1, y2), by unfold trow; rw [g1, g2], ?e1⟩) ?e2 (by assumption) (news_spl (by assumption) ?e3 (hG _))
          case e3 => walk_at "SPL"
          case e1 => exact ⟨_, _, _, _, rfl, by k_mem⟩
          case e2 => walk_at "ABOVE"
/-! N1 -/
theorem under_call_units {A : Around} {args : Args} : (A.under (.builtin "type.__call__" args)).units = A.units + 1 := by
  show A.units + Code.cUnits _ = _
  rfl
theorem reg27 : True := by
  k_with "UNITS" => (have hcL9 := cLine_is; (simp only [under_call_units, units_in1, units_deeper, Around.mark_units]); (try dsimp only); omega)
  k_with "NEWC" => (k_dflt (refine' call_cls ?zk1 ?zk2 ?zk3 ?zk4 ?zk5 ?zk6 ?_; (case zk1 => k_asm); (case zk2 => k_asm); (case zk3 => k_asm); (case zk4 => k_is); (case zk5 => k_is); (case zk6 => k_is); k_whole); intros; (rename_i l1 l2; (try k_lt l1); (try k_lt2 l2)); k_dflt (refine' code_def ?zn1 ?zn2 ?zn3 ?zn4 ?zn5 ?znA ?znF ?znK ?zn6 ?zn7 ?zn8 ?zn9 ?znB ?_ ?zd2 ?zd3 ?zd4 ?zd5; (case znA => exact rfl); (case znF => exact rfl); (case znK => assumption); (case zn1 => k_asm); (case zn2 => k_asm); (case zn3 => k_asm); (case zn4 => k_asm); (case zn5 => k_asm); (case zn6 => k_is); (case zn7 => k_is); (case zn8 => ktr_room); (case zn9 => first | exact BindsTo.of_eq rfl | exact binds_K (by k_in) rfl (by k_is) rfl rfl rfl); (case zd5 => decide); (case znB => exact locs rfl); (case zd2 => exact rfl); (case zd3 => exact rfl); (case zd4 => exact rfl); k_whole; intro g9 L9 h9 FG9 F9 N9 B9 X9 T9; (try dsimp only); (try k_lift B9); (try k_fold)))
  trivial
theorem newg_call {w : World} {A : Around} {h₀ : Heap} {L : Addr} {m : Str → Option Value} {s : Shared} {news small sym : Ledger} {G : Ledger → Ledger} {d : Addr} {o : Obj} {D : List GE} {P : PT} {b : Bool} {Q E : Value → Shared → Prop}
   (cx : Cx w A h₀ L m s news 11 380) (hG : ∀ tl, Mv tl sym news (G tl)) (sub : ∀ p ∈ small, p ∈ news) (hm : (d, o) ∈ small) (g : GObj Challenge.rw_pb0171_01.row.toRowW.prog w small o D) (p : PV small D P) (lo : (d == sysModules) = false) (h64 : D.length < 64)
   (ret : ∀ x' h' tk' tl, PG Challenge.rw_pb0171_01.row.toRowW.prog w (tl ++ small) x' P (b || moves P) → Above news tl → Fr h₀ L h' m → News h₀ L h' (G tl) → Q (.ref x') { s with heap := h', toks := tk' }) :
   wpAny (model Challenge.rw_pb0171_01.row.toRowW.prog w) A (call (.ref 169) [.ref d, .bool b]) Q E s := by
  have hmN := sub _ hm
  have gN := g.mono sub
  have pN := p.mono sub
  have h65 : P.length < 64 := by rw [← p.length]; exact h64
  walk_at "OPEN"
  walk_at "NEWC"
  k_steps
  · have hb1 : b = true := by assumption
    subst hb1
    refine' ret _ _ _ _ ?e1 ?e2 (by assumption) (news_spl (by assumption) ?e3 (hG _))
    case e3 => walk_at "SPL"
    case e1 => exact ⟨_, d, _, _, _, _, _, o, D, by k_mem, by k_mem, List.mem_append_right _ hm, g.mono fun q hq => List.mem_append_right _ hq, p.mono fun q hq => List.mem_append_right _ hq, lo⟩
    case e2 => walk_at "ABOVE"
  · have hb1 : b = false := by assumption
    subst hb1
    refine' ret _ _ _ _ ?e1 ?e2 (by assumption) (news_spl (by assumption) ?e3 (hG _))
    case e3 => walk_at "SPL"
    case e1 => exact ⟨_, d, _, _, _, _, _, o, D, by k_mem, by k_mem, List.mem_append_right _ hm, g.mono fun q hq => List.mem_append_right _ hq, p.mono fun q hq => List.mem_append_right _ hq, lo⟩
    case e2 => walk_at "ABOVE"
theorem reg28 : True := by
  k_with "call ref" => (k_here; (with_reducible show wpAny _ _ (call (Value.ref 169) [Value.ref _, Value.bool _]) _ _ _); k_dflt (refine' newg_call ?zcx ?zhG (fun p h => h) ?zhm ?zg ?zp ?zlo ?zh64 ?_; (case zcx => walk_at "CX"); (case zhG => intro tl'; walk_at "MV"); (case zhm => k_mem); (case zg => refine GObj.mono (by assumption) ?_; walk_at "SUB"); (case zp => refine PV.mono (by assumption) ?_; walk_at "SUB"); (case zlo => assumption); (case zh64 => assumption); intros))
  trivial
/-! B13 -/
theorem reg29 : True := by
  k_with "call ref" => (k_here; k_dflt (show wpAny _ _ (call (Value.ref 210) [Value.ref _, Value.ref _]) _ _ _); k_dflt (refine' turnrow_call ?zcx ?zhG ?zht ?zhd ?_; (case zcx => walk_at "CX"); (case zhG => intro tl'; walk_at "MV"); (case zht => refine TupAt.mono (by assumption) ?_; walk_at "SUB"); (case zhd => refine IDict.mono (by assumption) ?_; walk_at "SUB"); intro vR hR tkR tlR hvR haR FR NR; (rcases hvR with ⟨hzR, hvR⟩ | ⟨zR, hzR, taR, ttR, tuR, tnR, hvR, hmR⟩) <;> subst hvR))
  trivial
noncomputable def cutStep (P : PT) (T : List (Int × Int)) (acc : PT) (k : Int × Int) : PT := match trow k T with | some z => pput acc z ((pget P k).getD (0, 0)) | none => acc
noncomputable def cutG (P : PT) (T : List (Int × Int)) : PT := (sortk (P.map (·.1))).foldl (cutStep P T) []
theorem gobj_empty {prog : Program} {w : World} {news : Ledger} {o : Obj} (h : o.IsDictOf (intKind prog w) []) : GObj prog w news o [] := by
  obtain ⟨es, ep, a, b, c, d, e⟩ := h
  refine ⟨es, ep, a, b, ?_, (fun x hx => by simp at hx), List.nodup_nil⟩
  have := d.length
  simpa using this
theorem gput_length (D : List GE) (k : Int × Int) (a : Addr) (v : Value) : (gput D k a v).length ≤ D.length + 1 := by unfold gput; split <;> simp
theorem cutg_call {w : World} {A : Around} {h₀ : Heap} {L : Addr} {m : Str → Option Value} {s : Shared} {news sym : Ledger} {G : Ledger → Ledger} {x d : Addr} {P : PT} {b : Bool} {T : List (Int × Int)} {Q E : Value → Shared → Prop}
   (cx : Cx w A h₀ L m s news 12 400) (hG : ∀ tl, Mv tl sym news (G tl)) (hx : PG Challenge.rw_pb0171_01.row.toRowW.prog w news x P b) (h64 : P.length < 64) (hsm : ∀ p ∈ P, Small p.1) (hd : IDict Challenge.rw_pb0171_01.row.toRowW.prog w news d T)
   (ret : ∀ x' h' tk' tl, PG Challenge.rw_pb0171_01.row.toRowW.prog w (tl ++ news) x' (cutG P T) (b || moves (cutG P T)) → Above news tl → Fr h₀ L h' m → News h₀ L h' (G tl) → Q (.ref x') { s with heap := h', toks := tk' }) :
   wpAny (model Challenge.rw_pb0171_01.row.toRowW.prog w) A (call (.ref 217) [.ref x, .ref d]) Q E s := by
  refine PG.elim hx ?_
  (try clear hx)
  intro dx dd h1 h2 t1 t2 n o D m1 m2 m3 g p lo
  have hb : ∀ y ∈ D, Small y.1 := fun y hy => by
    have : y.1 ∈ gkeys D := List.mem_map_of_mem hy
    rw [p.keys] at this
    obtain ⟨q, hq, e⟩ := List.mem_map.mp this
    exact e ▸ hsm q hq
  have hd64 : D.length < 64 := by rw [p.length]; exact h64
  walk_at "ENTER"
  k_steps
  rename_i dN hN2 oN loN hsN fsN hiN fiN l1N h1 F1 N1 B hB tkB vs ks c FB NB ht hpm hps xlt l1B hn
  have g0 := gobj_empty (news := news) hiN
  clear hsN fsN hiN fiN
  have hks := sortk_eq (l := P.map (·.1)) (by rw [← p.keys]; exact hpm) hps (fun k hk => by obtain ⟨q, hq, e⟩ := List.mem_map.mp hk; exact e ▸ hsm q hq)
  have hkl : (sortk (P.map (·.1))).length = P.length := by rw [← hks, hpm.length_eq, p.keys, List.length_map]
  subst hks
  k_dflt (refine' ForSrc.of (σ := Obj × Ledger × List GE) (fun c => (B, listOf vs.toArray _) :: (dN, c.1) :: (c.2.1 ++ news)) (fun _ => []) [Str.ofString "row"] (fun i c => GObj Challenge.rw_pb0171_01.row.toRowW.prog w (c.2.1 ++ news) c.1 c.2.2 ∧ PV (c.2.1 ++ news) c.2.2 (((sortk (P.map (·.1))).take i).foldl (cutStep P T) []) ∧ Above ((B, oN) :: (dN, oN) :: news) c.2.1 ∧ c.2.2.length ≤ i) (oN, [], []) (by assumption) (by assumption) (iters_list rfl (by assumption) (.head _)) ?hS ?hk ?h0 ?turn ?done)
  case hS => exact fun _ _ _ => .head _
  case hk => kst_all
  case h0 => exact ⟨g0, .nil, Above.nil, Nat.le_refl _⟩
  case turn =>
    rintro i ⟨oc, tl, Dc⟩ v u h tk I oI hlt ⟨gc, pc, ac, lc⟩ hP F' N' off
    obtain ⟨k, e1, hk⟩ := ht.at' hP
    obtain ⟨q, hq⟩ := gat_of_key (hpm.mem_iff.mp (List.mem_of_getElem? e1))
    rcases p.get k with ⟨e2, _⟩ | ⟨a', v', z, e2, e3, e4⟩
    · rw [hq] at e2; cases e2
    rw [foldl_take _ _ _ _ _ e1]
    obtain ⟨ka, kt, ku, kn, rfl, hkm⟩ := id hk
    dsimp only at N' off gc pc ac lc F'
    k_steps
    · rename (trow k T = none) => hz
      refine' fpost_next (oc, tl, Dc) (by assumption) (by assumption) ?sub ?off ?hk ?hr ?j
      case j => exact ⟨gc, by unfold cutStep; rw [hz]; exact pc, ac, Nat.le_succ_of_le lc⟩
      case sub => walk_at "SUB"
      case off => exact off
      case hk => kst_all
      case hr => walk_at "FSAME"
    · have subt : ∀ q ∈ tlR, q ∈ tlR ++ (tl ++ news) := fun q hq => List.mem_append_left _ hq
      k_dflt (refine' g_set (news := tlR ++ (tl ++ news)) (k := zR) (D := Dc) ?F ?N ?hu ?sub ?U ?g ?ht ?hz ?_)
      case F => assumption
      case N => assumption
      case hu => ke_room
      case U => k_updF
      case g => exact gc.mono fun q hq => List.mem_append_right _ hq
      case sub => walk_at "SUB"
      case ht => exact ⟨_, _, _, _, rfl, subt _ hmR⟩
      case hz => have hn1 := hn; simp only [List.size_toArray] at hlt; omega
      intro h3 o3 tk3 F3 N3 g3
      dsimp only
      k_steps
      refine' fpost_next (o3, tlR ++ tl, _) (by assumption) (by assumption) ?sub ?off ?hk ?hr ?j
      case j =>
        dsimp only
        refine ⟨by rw [List.append_assoc]; exact g3, ?pv, Above.append ?ab ac, Nat.le_trans (gput_length _ _ _ _) (Nat.succ_le_succ lc)⟩
        case ab =>
          intro y hy p' hp'
          have hh := haR y hy
          rcases List.mem_cons.mp hp' with rfl | hp'
          · exact hh (B, listOf vs.toArray c) (.tail _ (.head _))
          · rcases List.mem_cons.mp hp' with rfl | hp'
            · exact hh (dN, oc) (.tail _ (.tail _ (.head _)))
            · exact hh p' (.tail _ (.tail _ (.tail _ (List.mem_append_right _ hp'))))
        case pv =>
          unfold cutStep
          rw [hzR, e3, List.append_assoc]
          exact (pc.mono fun q hq => List.mem_append_right _ hq).put _ _ (e4.mono (by walk_at "SUB"))
      case sub => (try rw [List.append_assoc]); walk_at "SUB"
      case off => (try rw [List.append_assoc]); k_all
      case hk => kst_all
      case hr => walk_at "FSAME"
  case done =>
    rintro ⟨oc, tl, Dc⟩ u h tk ⟨gc, pc, ac, lc⟩ F' N'
    rw [List.take_of_length_le (by simp [hn, hkl])] at pc
    have pc : PV (tl ++ news) Dc (cutG P T) := pc
    dsimp only at N' gc pc ac lc F'
    have hl9 : (cutG P T).length < 64 := by rw [← pc.length]; simp at lc; omega
    have hD9 : Dc.length < 64 := by rw [pc.length]; exact hl9
    k_steps
    refine' ret _ _ _ _ ?e1 ?e2 (by assumption) (news_spl (by assumption) ?e3 (hG _))
    case e3 => walk_at "SPL"
    case e1 => exact PG.mono (by assumption) (by walk_at "SUB")
    case e2 => walk_at "ABOVE"
/-! B14 -/
inductive RowL (news : Ledger) : List (Addr × List Value) → List (List (Int × Int)) → Prop
  | nil : RowL news [] []
  | cons {a : Addr} {vs : List Value} {n : Nat} {xs : List (Int × Int)} {rows : List (Addr × List Value)} {R : List (List (Int × Int))} : (a, ({ cls := .type "list", data := .seq vs.toArray n } : Obj)) ∈ news → PL news vs xs → RowL news rows R → RowL news ((a, vs) :: rows) (xs :: R)
theorem RowL.mono {news news' : Ledger} {rows : List (Addr × List Value)} {R : List (List (Int × Int))} (h : RowL news rows R) (s : ∀ p ∈ news, p ∈ news') : RowL news' rows R := by
  induction h with
  | nil => exact .nil
  | cons a b _ ih => exact .cons (s _ a) (b.mono s) ih
theorem RowL.length {news : Ledger} {rows : List (Addr × List Value)} {R : List (List (Int × Int))} (h : RowL news rows R) : rows.length = R.length := by
  induction h with
  | nil => rfl
  | cons _ _ _ ih => simp [ih]
theorem RowL.at {news : Ledger} {rows : List (Addr × List Value)} {R : List (List (Int × Int))} (h : RowL news rows R) {i : Nat} {xs : List (Int × Int)} (e : R[i]? = some xs) : ∃ a vs n, rows[i]? = some (a, vs) ∧ (a, ({ cls := .type "list", data := .seq vs.toArray n } : Obj)) ∈ news ∧ PL news vs xs := by
  induction h generalizing i with
  | nil => simp at e
  | cons a b _ ih =>
    cases i with
    | zero => simp at e; subst e; exact ⟨_, _, _, rfl, a, b⟩
    | succ i => simp at e; obtain ⟨a, vs, n, h1, h2⟩ := ih e; exact ⟨a, vs, n, by simpa using h1, h2⟩
theorem PL.get {news : Ledger} {vs : List Value} {xs : List (Int × Int)} (h : PL news vs xs) {i : Nat} {x : Int × Int} (e : xs[i]? = some x) : ∃ v, vs[i]? = some v ∧ PairAt news v x.1 x.2 := by
  induction h generalizing i with
  | nil => simp at e
  | cons a _ ih =>
    cases i with
    | zero => simp at e; subst e; exact ⟨_, rfl, a⟩
    | succ i => simp at e; obtain ⟨v, h1, h2⟩ := ih e; exact ⟨v, by simpa using h1, h2⟩
noncomputable def PC (prog : Program) (w : World) (news : Ledger) (x : Addr) (ns : List Int) (F S : List (Int × Int)) (R : List (List (Int × Int))) (b : Bool) : Prop := ∃ (dx c f g r : Addr) (h1 h2 h3 h4 h5 : Int) (t1 t2 t3 t4 t5 : Tok) (n k : Nat) (rows : List (Addr × List Value)),
  (x, instObj 201 dx) ∈ news ∧ (dx, dictOf [⟨h1, .str "coverage" t1, .ref c⟩, ⟨h2, .str "firsts" t2, .ref f⟩, ⟨h3, .str "seconds" t3, .ref g⟩, ⟨h4, .str "rows" t4, .ref r⟩, ⟨h5, .str "is_second" t5, .bool b⟩] n) ∈ news ∧
  Cov news c ns ∧ CDef prog w news f F ∧ CDef prog w news g S ∧ (r, ({ cls := .type "list", data := .seq (rows.map fun p => Value.ref p.1).toArray k } : Obj)) ∈ news ∧ RowL news rows R
theorem PC.elim {prog : Program} {w : World} {news : Ledger} {x : Addr} {ns : List Int} {F S : List (Int × Int)} {R : List (List (Int × Int))} {b : Bool} {motive : Prop} (h : PC prog w news x ns F S R b)
    (k : ∀ (dx c f g r : Addr) (h1 h2 h3 h4 h5 : Int) (t1 t2 t3 t4 t5 : Tok) (n k : Nat) (rows : List (Addr × List Value)),
      (x, instObj 201 dx) ∈ news → (dx, dictOf [⟨h1, .str "coverage" t1, .ref c⟩, ⟨h2, .str "firsts" t2, .ref f⟩, ⟨h3, .str "seconds" t3, .ref g⟩, ⟨h4, .str "rows" t4, .ref r⟩, ⟨h5, .str "is_second" t5, .bool b⟩] n) ∈ news →
      Cov news c ns → CDef prog w news f F → CDef prog w news g S → (r, ({ cls := .type "list", data := .seq (rows.map fun p => Value.ref p.1).toArray k } : Obj)) ∈ news → RowL news rows R → motive) : motive := by
  obtain ⟨dx, c, f, g, r, h1, h2, h3, h4, h5, t1, t2, t3, t4, t5, n, k', rows, m1, m2, m3, m4, m5, m6, m7⟩ := h
  exact k dx c f g r h1 h2 h3 h4 h5 t1 t2 t3 t4 t5 n k' rows m1 m2 m3 m4 m5 m6 m7
theorem PC.mono {prog : Program} {w : World} {news news' : Ledger} {x : Addr} {ns : List Int} {F S : List (Int × Int)} {R : List (List (Int × Int))} {b : Bool} (h : PC prog w news x ns F S R b) (s : ∀ p ∈ news, p ∈ news') : PC prog w news' x ns F S R b := by
  obtain ⟨dx, c, f, g, r, h1, h2, h3, h4, h5, t1, t2, t3, t4, t5, n, k, rows, m1, m2, m3, m4, m5, m6, m7⟩ := h
  exact ⟨dx, c, f, g, r, h1, h2, h3, h4, h5, t1, t2, t3, t4, t5, n, k, rows, s _ m1, s _ m2, m3.mono s, m4.mono s, m5.mono s, s _ m6, m7.mono s⟩
section
variable {prog : Program} {w : World} {A : Around} {E : Value → Shared → Prop} {s : Shared} {h₀ : Heap} {L l : Addr} {news : Ledger} {its : Array Value} {c : Nat} {v : Value} {k : Int} {u : Tok} {Q : Value → Shared → Prop}
theorem l_item {value slice : Expr} (N : News h₀ L s.heap news) (hm : (l, ({ cls := .type "list", data := .seq its c } : Obj)) ∈ news) (h0 : 0 ≤ k) (hx : its[k.toNat]? = some v) (hf : k < 2 ^ 63) (h : Q v s)
    (hs : subscripted slice false (.ref l) (.int k u) = operate [.ref l, .int k u] (getItem (.ref l) (.int k u)) := by with_unfolding_all rfl) : wpAny (model prog w) A (subscriptTail value slice (.ref l) (.int k u)) Q E s := by
  have hl : s.heap.IsList l its := ⟨_, (N _ hm).1, rfl, _, rfl⟩
  exact tail_any hl.typeIs PySem.slot_list_getitem.lookup (wpAny_getItem_list hl h0 hf hx h) hs
end
theorem reg30 : True := by
  k_with "subscriptTail" => (k_here; (with_reducible show wpAny _ _ (subscriptTail _ _ (Value.ref _) (Value.int _ _)) _ _ _); k_dflt (refine' l_item ?zN ?zhm ?zh0 ?zhx ?zhf ?_ ?zhs; (case zN => k_asm); (case zhm => k_mem); (case zh0 => omega); (case zhx => with_reducible assumption); (case zhf => omega); (case zhs => with_unfolding_all rfl)))
  k_with "call ref" => (k_here; k_dflt (show wpAny _ _ (call (Value.ref 101) [Value.ref _, Value.int _ _]) _ _ _); k_dflt (refine' has_call ?zcx ?zhx ?zh64 ?zhs ?_; (case zcx => walk_at "CX"); (case zhx => refine Cov.mono (by assumption) ?_; walk_at "SUB"); (case zh64 => assumption); (case zhs => assumption); intros))
  k_with "call ref" => (k_here; k_dflt (show wpAny _ _ (call (Value.ref 42) [Value.ref _, Value.int _ _]) _ _ _); k_dflt (refine' classof_call ?zcx ?zhx ?_; (case zcx => walk_at "CX"); (case zhx => refine CDef.mono (by assumption) ?_; walk_at "SUB"); intros))
  trivial
noncomputable def findC (ns : List Int) (F S : List (Int × Int)) (R : List (List (Int × Int))) (a b : Int) : Option (Int × Int) := if a ∈ ns then (R[((get F a).getD 0).toNat]?).bind fun row => row[((get S b).getD 0).toNat]? else none
theorem pc_find {w : World} {A : Around} {h₀ : Heap} {L : Addr} {m : Str → Option Value} {s : Shared} {news : Ledger} {x : Addr} {ns : List Int} {F S : List (Int × Int)} {R : List (List (Int × Int))} {b : Bool} {a c : Int} {ta tc : Tok} {Q E : Value → Shared → Prop}
   (cx : Cx w A h₀ L m s news 9 300) (hx : PC Challenge.rw_pb0171_01.row.toRowW.prog w news x ns F S R b) (h64 : ns.length < 64) (hs : ns.Pairwise (· < ·)) (hF : ∀ k, 0 ≤ (get F k).getD 0) (hS : ∀ k, 0 ≤ (get S k).getD 0) (hR : R.length < 64) (hR2 : ∀ row ∈ R, row.length < 64)
   (ret : ∀ v h' tk', ((findC ns F S R a c = none ∧ v = .none) ∨ ∃ z, findC ns F S R a c = some z ∧ PairAt news v z.1 z.2) → Fr h₀ L h' m → News h₀ L h' news → Q v { s with heap := h', toks := tk' }) :
   wpAny (model Challenge.rw_pb0171_01.row.toRowW.prog w) A (call (.ref 193) [.ref x, .int a ta, .int c tc]) Q E s := by
  refine PC.elim hx ?_
  (try clear hx)
  intro dx cv f g r h1 h2 h3 h4 h5 t1 t2 t3 t4 t5 n k rows m1 m2 m3 m4 m5 m6 m7
  refine Cov.elim m3 ?_
  intro q1 q2 q3 q4 q5 q6 q7 q8 q9 q10 q11
  refine CDef.elim m4 ?_
  intro u1 u2 u3 u4 u5 u6 u7 u8
  refine CDef.elim m5 ?_
  intro w1 w2 w3 w4 w5 w6 w7 w8
  have hF' := hF a
  have hS' := hS c
  have hrl := m7.length
  have hrl2 : (rows.map fun p => Value.ref p.1).length = R.length := by simp [hrl]
  by_cases hin : a ∈ ns
  · have hfc : findC ns F S R a c = (R[((get F a).getD 0).toNat]?).bind fun row => row[((get S c).getD 0).toNat]? := if_pos hin
    have hin' : decide (a ∈ ns) = true := decide_eq_true hin
    by_cases ho : (get F a).getD 0 < R.length
    · obtain ⟨row, hrow⟩ : ∃ row, R[((get F a).getD 0).toNat]? = some row := ⟨_, List.getElem?_eq_getElem (by omega)⟩
      obtain ⟨ra, rvs, rn, hr1, hr2, hr3⟩ := m7.at hrow
      have hi1 : (rows.map fun p => Value.ref p.1).toArray[((get F a).getD 0).toNat]? = some (.ref ra) := by simp [hr1]
      have hrl3 := hr3.length
      have hrl4 := hR2 row (List.mem_of_getElem? hrow)
      by_cases ho2 : (get S c).getD 0 < row.length
      · obtain ⟨z, hz⟩ : ∃ z, row[((get S c).getD 0).toNat]? = some z := ⟨_, List.getElem?_eq_getElem (by omega)⟩
        obtain ⟨v, hv1, hv2⟩ := hr3.get hz
        have hi2 : rvs.toArray[((get S c).getD 0).toNat]? = some v := by simpa using hv1
        walk_at "ENTER"
        k_steps
        exact ret _ _ _ (.inr ⟨z, by rw [hfc, hrow]; exact hz, hv2⟩) (by assumption) (by walk_at "DROP")
      · have hz : row[((get S c).getD 0).toNat]? = none := List.getElem?_eq_none (by omega)
        walk_at "ENTER"
        k_steps
        exact ret _ _ _ (.inl ⟨by rw [hfc, hrow]; exact hz, rfl⟩) (by assumption) (by walk_at "DROP")
    · have hz : R[((get F a).getD 0).toNat]? = none := List.getElem?_eq_none (by omega)
      walk_at "ENTER"
      k_steps
      exact ret _ _ _ (.inl ⟨by rw [hfc, hz]; rfl, rfl⟩) (by assumption) (by walk_at "DROP")
  · have hfc : findC ns F S R a c = none := if_neg hin
    have hin' : decide (a ∈ ns) = false := decide_eq_false hin
    walk_at "ENTER"
    k_steps
    exact ret _ _ _ (.inl ⟨hfc, rfl⟩) (by assumption) (by walk_at "DROP")
/-! B15 -/
theorem ne_lt {P D : Addr} {o : Obj} {l : Ledger} (h : AllLt D l) (k : (P, o) ∈ l) : P ≠ D := allLt_ne h _ k
theorem reg31 : True := by
  k_with "NE" => first | exact ne_lt (by assumption) (by k_mem) | exact Ne.symm (ne_lt (by assumption) (by k_mem)) | fail "mine"
  trivial
noncomputable def ctD (M : List (Int × Int)) : Dat := .tuple ((srt (M.map (·.1))).map fun k => tupI [k, (get M k).getD 0])
noncomputable def rowT (xs : List (Int × Int)) : Dat := .tuple (xs.map fun z => pairD z.1 z.2)
noncomputable def toldC (ns : List Int) (F S : List (Int × Int)) (R : List (List (Int × Int))) (b : Bool) : Dat := .tuple [.str "classes", .bool b, tupI ns, ctD F, ctD S, .tuple (R.map rowT)]
theorem reg32 : True := by
  k_with "call ref" => (k_here; k_dflt (show wpAny _ _ (call (Value.ref 108) [Value.ref _]) _ _ _); k_dflt (refine' covtold_call ?zcx ?zhx ?zh64 ?_; (case zcx => walk_at "CX"); (case zhx => refine Cov.mono (by assumption) ?_; walk_at "SUB"); (case zh64 => assumption); intros))
  k_with "call ref" => (k_here; k_dflt (show wpAny _ _ (call (Value.ref 61) [Value.ref _]) _ _ _); k_dflt (refine' ctold_call ?zcx ?zhG ?zhx ?zh64 ?_; (case zcx => walk_at "CX"); (case zhG => intro tl'; walk_at "MV"); (case zhx => refine CDef.mono (by assumption) ?_; walk_at "SUB"); (case zh64 => assumption); intros))
  trivial
theorem pc_told {w : World} {A : Around} {h₀ : Heap} {L : Addr} {m : Str → Option Value} {s : Shared} {news sym : Ledger} {G : Ledger → Ledger} {x : Addr} {ns : List Int} {F S : List (Int × Int)} {R : List (List (Int × Int))} {b : Bool} {Q E : Value → Shared → Prop}
   (cx : Cx w A h₀ L m s news 9 300) (hG : ∀ tl, Mv tl sym news (G tl)) (hx : PC Challenge.rw_pb0171_01.row.toRowW.prog w news x ns F S R b) (h64 : ns.length < 64) (hF64 : F.length < 64) (hS64 : S.length < 64) (hR : R.length < 64) (hR2 : ∀ row ∈ R, row.length < 64)
   (ret : ∀ v h' tk' tl, DatIn (tl ++ news) v (toldC ns F S R b) → Above news tl → Fr h₀ L h' m → News h₀ L h' (G tl) → Q v { s with heap := h', toks := tk' }) :
   wpAny (model Challenge.rw_pb0171_01.row.toRowW.prog w) A (call (.ref 198) [.ref x]) Q E s := by
  refine PC.elim hx ?_
  (try clear hx)
  intro dx cv f g r h1 h2 h3 h4 h5 t1 t2 t3 t4 t5 n k rows m1 m2 m3 m4 m5 m6 m7
  refine Cov.elim m3 ?_
  intro q1 q2 q3 q4 q5 q6 q7 q8 q9 q10 q11
  refine CDef.elim m4 ?_
  intro u1 u2 u3 u4 u5 u6 u7 u8
  refine CDef.elim m5 ?_
  intro w1 w2 w3 w4 w5 w6 w7 w8
  have hrl := m7.length
  walk_at "ENTER"
  k_steps
  k_dflt (refine' src_grow (by assumption) (by assumption) (iters_list rfl (by assumption) m6) ?sz m6 (fun i ys tl => DatAll tl ys ((R.map rowT).take i)) ?h0 ?turn ?fin)
  case sz => rw [sizeLine_eq]; simp only [List.size_toArray, List.length_map]; omega
  case h0 => exact .nil
  case turn =>
    intro i ys tl v I oI C oC D m₂ h tk E' hlt ha hr hP hC hx F' N' off ne
    simp only [List.size_toArray, List.length_map] at hlt
    obtain ⟨row, hrow⟩ : ∃ row, R[i]? = some row := ⟨_, List.getElem?_eq_getElem (by omega)⟩
    obtain ⟨ra, rvs, rn, hr1, hr2, hr3⟩ := m7.at hrow
    have hrl3 := hr3.length
    have hrl4 := hR2 row (List.mem_of_getElem? hrow)
    have ev : v = .ref ra := by simpa [hr1] using hP.symm
    subst ev
    k_steps
    k_dflt (refine' src_grow (by assumption) (by assumption) (iters_list rfl (by assumption) (by k_mem)) ?sz2 (by k_mem) (fun i ys tl => DatAll tl ys ((row.map fun z => pairD z.1 z.2).take i)) ?h02 ?turn2 ?fin2)
    case sz2 => rw [sizeLine_eq]; simp only [List.size_toArray]; omega
    case h02 => exact .nil
    case turn2 =>
      intro j zs tm v J oJ C2 oC2 D2 m₃ h9 tk9 E9 hlt2 ha2 hr9 hP2 hC2 hx2 F2 N2 off2 ne2
      obtain ⟨z, hz, hpa⟩ := hr3.at hP2
      k_steps
      walk_at "GROW"
      exact datTake (d := pairD z.1 z.2) hr9 (by simp [hz]) (by walk_at "SUB") (by walk_at "DAT")
    case fin2 =>
      intro g2 zs tm ha2 hr9
      have hyl : zs.length ≤ 64 := by have := hr9.length; simp at this; omega
      k_steps
      (try walk_at "CompEnd")
      walk_at "GROW"
      exact datTake (d := rowT row) hr (by simp [hrow]) (by walk_at "SUB") (.tuple (by k_mem) ((datEnd hr9 (by simp [hrl3])).mono (by walk_at "SUB")))
  case fin =>
    intro g' ys tl ha hr
    have hyl : ys.length ≤ 64 := by have := hr.length; simp at this; omega
    k_steps
    refine' ret _ _ _ _ ?e1 ?e2 (by assumption) (news_spl (by assumption) ?e3 (hG _))
    case e3 => walk_at "SPL"
    case e1 =>
      refine .tuple (by k_mem) (.cons (.str _ _) (.cons (.bool _) (.cons ?_ (.cons ?_ (.cons ?_ (.cons ?_ .nil))))))
      · refine DatIn.mono ?_ (by assumption); walk_at "SUB"
      · refine DatIn.mono ?_ (by assumption); walk_at "SUB"
      · refine DatIn.mono ?_ (by assumption); walk_at "SUB"
      · exact .tuple (by k_mem) ((datEnd hr (by simp [hrl])).mono (by walk_at "SUB"))
    case e2 => walk_at "ABOVE"
/-! N2 -/
theorem reg33 : True := by
  k_with "call ref" => (k_here; k_dflt (show wpAny _ _ (call (Value.ref 139) [Value.ref _]) _ _ _); k_dflt (refine' moves_list ?zcx ?zhv ?zhp ?zh64 ?_; (case zcx => walk_at "CX"); (case zhv => k_mem); (case zhp => refine PL.mono (by assumption) ?_; walk_at "SUB"); (case zh64 => assumption); intros))
  k_with "eval ListComp Name cons" => (k_here; (with_reducible show wpAny _ _ (eval (Expr.ListComp (Expr.Name _ _) [⟨Expr.Name _ _, _, [], _⟩, ⟨Expr.Name _ _, Expr.Name _ _, [], _⟩] _ _) _) _ _ _); k_dflt (refine' ListComp_2 ?zF ?zc ?zk1 ?zk2 ?zk3 ?zk4 ?zk5 ?zk6 ?zk7 ?_; (case zF => k_asm); (case zc => with_unfolding_all rfl); (case zk1 => decide); (case zk2 => exact rfl); (case zk3 => decide); (case zk4 => exact rfl); (case zk5 => decide); (case zk6 => exact rfl); (case zk7 => decide)))
  trivial
theorem RowL.mem {news : Ledger} {rows : List (Addr × List Value)} {R : List (List (Int × Int))} (h : RowL news rows R) : ∀ p ∈ rows, ∃ n, (p.1, ({ cls := .type "list", data := .seq p.2.toArray n } : Obj)) ∈ news := by
  induction h with
  | nil => intro p hp; simp at hp
  | cons a _ _ ih =>
    intro p hp
    rcases List.mem_cons.mp hp with rfl | hp
    · exact ⟨_, a⟩
    · exact ih p hp
theorem PL.append {news : Ledger} {vs ws : List Value} {xs ys : List (Int × Int)} (h : PL news vs xs) (k : PL news ws ys) : PL news (vs ++ ws) (xs ++ ys) := by
  induction h with
  | nil => exact k
  | cons a _ ih => exact .cons a ih
theorem RowL.flat {news : Ledger} {rows : List (Addr × List Value)} {R : List (List (Int × Int))} (h : RowL news rows R) : PL news (rows.flatMap (·.2)) R.flatten := by
  induction h with
  | nil => exact .nil
  | cons _ b _ ih => exact b.append ih
theorem newcov_call {w : World} {A : Around} {h₀ : Heap} {L : Addr} {m : Str → Option Value} {s : Shared} {news small sym : Ledger} {G : Ledger → Ledger} {t : Addr} {vs : List Value} {k : Nat} {ns : List Int} {Q E : Value → Shared → Prop}
   (cx : Cx w A h₀ L m s news 4 80) (hG : ∀ tl, Mv tl sym news (G tl)) (sub : ∀ p ∈ small, p ∈ news) (hm : (t, ({ cls := .type "tuple", data := .seq vs.toArray k } : Obj)) ∈ small) (hi : IntsAre vs ns)
   (ret : ∀ x' h' tk' tl, Cov (tl ++ small) x' ns → Above news tl → Fr h₀ L h' m → News h₀ L h' (G tl) → Q (.ref x') { s with heap := h', toks := tk' }) :
   wpAny (model Challenge.rw_pb0171_01.row.toRowW.prog w) A (call (.ref 111) [.ref t]) Q E s := by
  have hmN := sub _ hm
  walk_at "OPEN"
  walk_at "NEWC"
  k_steps
  refine' ret _ _ _ _ ?e1 ?e2 (by assumption) (news_spl (by assumption) ?e3 (hG _))
  case e3 => walk_at "SPL"
  case e1 => exact ⟨_, t, _, _, _, _, vs, by k_mem, by k_mem, List.mem_append_right _ hm, hi⟩
  case e2 => walk_at "ABOVE"
theorem newcdef_call {w : World} {A : Around} {h₀ : Heap} {L : Addr} {m : Str → Option Value} {s : Shared} {news small sym : Ledger} {G : Ledger → Ledger} {d : Addr} {M : List (Int × Int)} {Q E : Value → Shared → Prop}
   (cx : Cx w A h₀ L m s news 4 80) (hG : ∀ tl, Mv tl sym news (G tl)) (sub : ∀ p ∈ small, p ∈ news) (hd : IDict Challenge.rw_pb0171_01.row.toRowW.prog w small d M)
   (ret : ∀ x' h' tk' tl, CDef Challenge.rw_pb0171_01.row.toRowW.prog w (tl ++ small) x' M → Above news tl → Fr h₀ L h' m → News h₀ L h' (G tl) → Q (.ref x') { s with heap := h', toks := tk' }) :
   wpAny (model Challenge.rw_pb0171_01.row.toRowW.prog w) A (call (.ref 64) [.ref d]) Q E s := by
  walk_at "OPEN"
  walk_at "NEWC"
  k_steps
  refine' ret _ _ _ _ ?e1 ?e2 (by assumption) (news_spl (by assumption) ?e3 (hG _))
  case e3 => walk_at "SPL"
  case e1 => exact ⟨_, d, _, _, _, by k_mem, by k_mem, hd.mono fun q hq => List.mem_append_right _ hq⟩
  case e2 => walk_at "ABOVE"
theorem newc_call {w : World} {A : Around} {h₀ : Heap} {L : Addr} {m : Str → Option Value} {s : Shared} {news small sym : Ledger} {G : Ledger → Ledger} {c f g r : Addr} {ns : List Int} {F S : List (Int × Int)} {R : List (List (Int × Int))} {rows : List (Addr × List Value)} {k : Nat} {b : Bool} {Q E : Value → Shared → Prop}
   (cx : Cx w A h₀ L m s news 11 380) (hG : ∀ tl, Mv tl sym news (G tl)) (sub : ∀ p ∈ small, p ∈ news) (m3 : Cov small c ns) (m4 : CDef Challenge.rw_pb0171_01.row.toRowW.prog w small f F) (m5 : CDef Challenge.rw_pb0171_01.row.toRowW.prog w small g S)
   (m6 : (r, ({ cls := .type "list", data := .seq (rows.map fun p => Value.ref p.1).toArray k } : Obj)) ∈ small) (m7 : RowL small rows R) (hR : R.flatten.length < 64)
   (ret : ∀ x' h' tk' tl, PC Challenge.rw_pb0171_01.row.toRowW.prog w (tl ++ small) x' ns F S R (b || movesL R.flatten) → Above news tl → Fr h₀ L h' m → News h₀ L h' (G tl) → Q (.ref x') { s with heap := h', toks := tk' }) :
   wpAny (model Challenge.rw_pb0171_01.row.toRowW.prog w) A (call (.ref 201) [.ref c, .ref f, .ref g, .ref r, .bool b]) Q E s := by
  have hfl := (m7.mono sub).flat
  have hfl2 := hfl.length
  have m7N := m7.mono sub
  have m6N := sub _ m6
  walk_at "OPEN"
  walk_at "NEWC"
  k_steps
  · have hb1 : b = true := by assumption
    subst hb1
    refine' ret _ _ _ _ ?e1 ?e2 (by assumption) (news_spl (by assumption) ?e3 (hG _))
    case e3 => walk_at "SPL"
    case e1 => exact ⟨_, c, f, g, r, _, _, _, _, _, _, _, _, _, _, _, _, rows, by k_mem, by k_mem, m3.mono fun q hq => List.mem_append_right _ hq, m4.mono fun q hq => List.mem_append_right _ hq, m5.mono fun q hq => List.mem_append_right _ hq, List.mem_append_right _ m6, m7.mono fun q hq => List.mem_append_right _ hq⟩
    case e2 => walk_at "ABOVE"
  · have hb1 : b = false := by assumption
    subst hb1
    refine ⟨_, rows, _, _, rfl, rfl, by assumption, by assumption, by k_mem, ?hrows, ?sz, ?fin⟩
    case hrows => intro p hp; obtain ⟨n, hn⟩ := m7N.mem p hp; exact ⟨n, by k_mem⟩
    case sz => rw [sizeLine_eq]; omega
    case fin =>
      intro D h tk F' N' o1
      k_steps
      refine' ret _ _ _ _ ?e1 ?e2 (by assumption) (news_spl (by assumption) ?e3 (hG _))
      case e3 => walk_at "SPL"
      case e1 => exact ⟨_, c, f, g, r, _, _, _, _, _, _, _, _, _, _, _, _, rows, by k_mem, by k_mem, m3.mono fun q hq => List.mem_append_right _ hq, m4.mono fun q hq => List.mem_append_right _ hq, m5.mono fun q hq => List.mem_append_right _ hq, List.mem_append_right _ m6, m7.mono fun q hq => List.mem_append_right _ hq⟩
      case e2 => walk_at "ABOVE"
theorem reg34 : True := by
  k_with "call ref" => (k_here; (with_reducible show wpAny _ _ (call (Value.ref 111) [Value.ref _]) _ _ _); k_dflt (refine' newcov_call ?zcx ?zhG (fun p h => h) ?zhm ?zhi ?_; (case zcx => walk_at "CX"); (case zhG => intro tl'; walk_at "MV"); (case zhm => k_mem); (case zhi => assumption); intros))
  k_with "call ref" => (k_here; (with_reducible show wpAny _ _ (call (Value.ref 64) [Value.ref _]) _ _ _); k_dflt (refine' newcdef_call ?zcx ?zhG (fun p h => h) ?zhd ?_; (case zcx => walk_at "CX"); (case zhG => intro tl'; walk_at "MV"); (case zhd => first | (refine IDict.mono (by assumption) ?_; walk_at "SUB") | exact ⟨_, by k_mem, by assumption, by assumption⟩ | fail "mine"); intros))
  k_with "call ref" => (k_here; (with_reducible show wpAny _ _ (call (Value.ref 201) [Value.ref _, Value.ref _, Value.ref _, Value.ref _, Value.bool _]) _ _ _); k_dflt (refine' newc_call ?zcx ?zhG (fun p h => h) ?zm3 ?zm4 ?zm5 ?zm6 ?zm7 ?zhR ?_; (case zcx => walk_at "CX"); (case zhG => intro tl'; walk_at "MV"); (case zm3 => refine Cov.mono (by assumption) ?_; walk_at "SUB"); (case zm4 => refine CDef.mono (by assumption) ?_; walk_at "SUB"); (case zm5 => refine CDef.mono (by assumption) ?_; walk_at "SUB"); (case zm6 => k_mem); (case zm7 => refine RowL.mono (by assumption) ?_; walk_at "SUB"); (case zhR => assumption); intros))
  trivial
/-! B16 -/
theorem reg35 : True := by
  k_with "call ref" => (k_here; k_dflt (show wpAny _ _ (call (Value.ref 127) [Value.ref _, Value.ref _]) _ _ _); k_dflt (refine' turncov_call ?zcx ?zhG ?zhx ?zhd ?zh64 ?_; (case zcx => walk_at "CX"); (case zhG => intro tl'; walk_at "MV"); (case zhx => refine Cov.mono (by assumption) ?_; walk_at "SUB"); (case zhd => refine IDict.mono (by assumption) ?_; walk_at "SUB"); (case zh64 => assumption); intros))
  k_with "call ref" => (k_here; k_dflt (show wpAny _ _ (call (Value.ref 73) [Value.ref _, Value.ref _]) _ _ _); k_dflt (refine' turnc_call ?zcx ?zhG ?zhx ?zhd ?zh64 ?_; (case zcx => walk_at "CX"); (case zhG => intro tl'; walk_at "MV"); (case zhx => refine CDef.mono (by assumption) ?_; walk_at "SUB"); (case zhd => refine IDict.mono (by assumption) ?_; walk_at "SUB"); (case zh64 => assumption); intros))
  trivial
theorem cutc_call {w : World} {A : Around} {h₀ : Heap} {L : Addr} {m : Str → Option Value} {s : Shared} {news sym : Ledger} {G : Ledger → Ledger} {x d : Addr} {ns : List Int} {F S : List (Int × Int)} {R : List (List (Int × Int))} {b : Bool} {T : List (Int × Int)} {Q E : Value → Shared → Prop}
   (cx : Cx w A h₀ L m s news 12 400) (hG : ∀ tl, Mv tl sym news (G tl)) (hx : PC Challenge.rw_pb0171_01.row.toRowW.prog w news x ns F S R b) (h64 : ns.length < 64) (hF64 : F.length < 64) (hS64 : S.length < 64) (hR : R.flatten.length < 64) (hd : IDict Challenge.rw_pb0171_01.row.toRowW.prog w news d T)
   (ret : ∀ x' h' tk' tl, PC Challenge.rw_pb0171_01.row.toRowW.prog w (tl ++ news) x' (tcov ns T) (tcl F T) (tcl S T) R (b || movesL R.flatten) → Above news tl → Fr h₀ L h' m → News h₀ L h' (G tl) → Q (.ref x') { s with heap := h', toks := tk' }) :
   wpAny (model Challenge.rw_pb0171_01.row.toRowW.prog w) A (call (.ref 217) [.ref x, .ref d]) Q E s := by
  refine PC.elim hx ?_
  (try clear hx)
  intro dx cv f g r h1 h2 h3 h4 h5 t1 t2 t3 t4 t5 n k rows m1 m2 m3 m4 m5 m6 m7
  have hfl := m7.flat
  have hfl2 := hfl.length
  walk_at "ENTER"
  k_steps
  refine' ret _ _ _ _ ?e1 ?e2 (by assumption) (news_spl (by assumption) ?e3 (hG _))
  case e3 => walk_at "SPL"
  case e1 => exact PC.mono (by assumption) (by walk_at "SUB")
  case e2 => walk_at "ABOVE"
/-! B17 -/
theorem reg36 : True := by
  k_with "FOUND" => ((rename (_ ∨ _) => hv'); (rcases hv' with ⟨hz', hv'⟩ | ⟨z', hz', y', a', b', n', hv', hm', hv1', hv2'⟩) <;> subst hv')
  k_with "call ref" => (k_here; k_dflt (show wpAny _ _ (call (Value.ref 161) [Value.ref _, Value.int _ _, Value.int _ _]) _ _ _); k_dflt (refine' pg_find ?zcx ?zhx ?_; (case zcx => walk_at "CX"); (case zhx => refine PG.mono (by assumption) ?_; walk_at "SUB"); intro v' h' tk' hv' F' N'; (rcases hv' with ⟨hz', hv'⟩ | ⟨z', hz', y', a', b', n', hv', hm', hv1', hv2'⟩) <;> subst hv') <;> (try (refine ValAt.elim hv1' ?_; intro _ _ _ _ _ _ _ _ _ _ _ _ _ _ hva' hvb'; refine ValAt.elim hv2' ?_; intros)))
  k_with "call ref" => (k_here; k_dflt (show wpAny _ _ (call (Value.ref 193) [Value.ref _, Value.int _ _, Value.int _ _]) _ _ _); k_dflt (refine' pc_find ?zcx ?zhx ?zh64 ?zhs ?zhF ?zhS ?zhR ?zhR2 ?_; (case zcx => walk_at "CX"); (case zhx => refine PC.mono (by assumption) ?_; walk_at "SUB"); (case zh64 => assumption); (case zhs => assumption); (case zhF => assumption); (case zhS => assumption); (case zhR => assumption); (case zhR2 => assumption); intro v' h' tk' hv' F' N'; (rcases hv' with ⟨hz', hv'⟩ | ⟨z', hz', y', a', b', n', hv', hm', hv1', hv2'⟩) <;> subst hv') <;> (try (refine ValAt.elim hv1' ?_; intro _ _ _ _ _ _ _ _ _ _ _ _ _ _ hva' hvb'; refine ValAt.elim hv2' ?_; intros)))
  trivial
theorem foundg_call {w : World} {A : Around} {h₀ : Heap} {L : Addr} {m : Str → Option Value} {s : Shared} {news sym : Ledger} {G : Ledger → Ledger} {x : Addr} {P : PT} {b : Bool} {a c : Int} {ta tc : Tok} {Q E : Value → Shared → Prop}
   (cx : Cx w A h₀ L m s news 12 400) (hG : ∀ tl, Mv tl sym news (G tl)) (hx : PG Challenge.rw_pb0171_01.row.toRowW.prog w news x P b)
   (ret : ∀ v h' tk' tl, DatIn tl v (valD (pget P (a, c))) → Above news tl → Fr h₀ L h' m → News h₀ L h' (G tl) → Q v { s with heap := h', toks := tk' }) :
   wpAny (model Challenge.rw_pb0171_01.row.toRowW.prog w) A (call (.ref 285) [.ref x, .int a ta, .int c tc]) Q E s := by
  have hx' := hx
  refine PG.elim hx' ?_
  (try clear hx')
  intro dx dd h1 h2 t1 t2 n o D m1 m2 m3 g p lo
  walk_at "ENTER"
  k_steps
  · refine' ret _ _ _ _ ?e1 ?e2 (by assumption) (news_spl (by assumption) ?e3 (hG _))
    case e3 => walk_at "SPL"
    case e1 => rename (pget P (a, c) = none) => hz; rw [hz]; exact .none
    case e2 => walk_at "ABOVE"
  · refine' ret _ _ _ _ ?e1 ?e2 (by assumption) (news_spl (by assumption) ?e3 (hG _))
    case e3 => walk_at "SPL"
    case e1 => rename (pget P (a, c) = some _) => hz; rw [hz]; walk_at "DAT"
    case e2 => walk_at "ABOVE"
theorem foundc_call {w : World} {A : Around} {h₀ : Heap} {L : Addr} {m : Str → Option Value} {s : Shared} {news sym : Ledger} {G : Ledger → Ledger} {x : Addr} {ns : List Int} {F S : List (Int × Int)} {R : List (List (Int × Int))} {b : Bool} {a c : Int} {ta tc : Tok} {Q E : Value → Shared → Prop}
   (cx : Cx w A h₀ L m s news 12 400) (hG : ∀ tl, Mv tl sym news (G tl)) (hx : PC Challenge.rw_pb0171_01.row.toRowW.prog w news x ns F S R b) (h64 : ns.length < 64) (hs : ns.Pairwise (· < ·)) (hF : ∀ k, 0 ≤ (get F k).getD 0) (hS : ∀ k, 0 ≤ (get S k).getD 0) (hR : R.length < 64) (hR2 : ∀ row ∈ R, row.length < 64)
   (ret : ∀ v h' tk' tl, DatIn tl v (valD (findC ns F S R a c)) → Above news tl → Fr h₀ L h' m → News h₀ L h' (G tl) → Q v { s with heap := h', toks := tk' }) :
   wpAny (model Challenge.rw_pb0171_01.row.toRowW.prog w) A (call (.ref 285) [.ref x, .int a ta, .int c tc]) Q E s := by
  have hx' := hx
  refine PC.elim hx' ?_
  (try clear hx')
  intro dx cv f g r h1 h2 h3 h4 h5 t1 t2 t3 t4 t5 n k rows m1 m2 m3 m4 m5 m6 m7
  walk_at "ENTER"
  k_steps
  · refine' ret _ _ _ _ ?e1 ?e2 (by assumption) (news_spl (by assumption) ?e3 (hG _))
    case e3 => walk_at "SPL"
    case e1 => rename (findC ns F S R a c = none) => hz; rw [hz]; exact .none
    case e2 => walk_at "ABOVE"
  · refine' ret _ _ _ _ ?e1 ?e2 (by assumption) (news_spl (by assumption) ?e3 (hG _))
    case e3 => walk_at "SPL"
    case e1 => rename (findC ns F S R a c = some _) => hz; rw [hz]; walk_at "DAT"
    case e2 => walk_at "ABOVE"
/-! B18 -/
/-- the numbers given: key after key, begin + 7 i % 11 -/
noncomputable def numStep (b : Int) (M : List (Int × Int)) (k : Int) : List (Int × Int) := put M k (b + Int.fmod (7 * (M.length : Int)) 11)
inductive Nums (b : Int) : List Int → List (Int × Int) → Prop
  | nil : Nums b [] []
  | skip {ns : List Int} {M : List (Int × Int)} {k : Int} : Nums b ns M → Nums b (ns ++ [k]) M
  | take {ns : List Int} {M : List (Int × Int)} {k : Int} : Nums b ns M → Nums b (ns ++ [k]) (numStep b M k)
section
variable {prog : Program} {w : World} {A : Around} {E : Value → Shared → Prop} {s : Shared} {h₀ : Heap} {L d : Addr} {news : Ledger} {o : Obj} {M : List (Int × Int)} {Q : Value → Shared → Prop}
theorem i_len (N : News h₀ L s.heap news) (hm : (d, o) ∈ news) (g : IObj prog w o M) (lo : (d == sysModules) = false) (hz : M.length ≤ 1000) (h : ∀ t tk, Q (.int (M.length : Int) t) { s with toks := tk }) : wpAny (model prog w) A (call (.builtin "len") [.ref d]) Q E s := by
  obtain ⟨kvs, ho, hf⟩ := g
  have hl := (flat_of hf).1
  refine kda_len N hm ho lo (by omega) ?_
  rw [hl]
  exact h _ _
end
theorem reg37 : True := by
  k_with "call builtin:len" => (k_here; k_dflt (refine' i_len ?zN ?zhm ?zg ?zlo ?zhz ?_; (case zN => k_asm); (case zhm => k_mem); (case zg => assumption); (case zlo => assumption); (case zhz => omega)); intros)
  trivial
theorem lawnum_call {w : World} {A : Around} {h₀ : Heap} {L : Addr} {m : Str → Option Value} {s : Shared} {rest : Ledger} {P l g : Addr} {o : Obj} {B : Int} {vs : List Value} {ns : List Int} {k : Nat} {b : Int} {tb : Tok} {Q E : Value → Shared → Prop}
   (cx : Cx w A h₀ L m s ((P, o) :: rest) 10 300) (hP : ∀ p ∈ rest, p.1 ≠ P) (hp : Pen l B o) (hB : B < 9000) (hl : Script rest l) (hg : (g, ({ cls := .type "list", data := .seq vs.toArray k } : Obj)) ∈ rest) (hi : IntsAre vs ns) (h64 : ns.length < 64)
   (ret : ∀ D M o' h' tk' tl, Nums b ns M → IDict Challenge.rw_pb0171_01.row.toRowW.prog w tl D M → Pen l (B + 64) o' → Fr h₀ L h' m → News h₀ L h' (tl ++ (P, o') :: rest) → Above ((P, o) :: rest) tl → Q (.ref D) { s with heap := h', toks := tk' }) :
   wpAny (model Challenge.rw_pb0171_01.row.toRowW.prog w) A (call (.ref 278) [.ref P, .ref g, .int b tb]) Q E s := by
  have hil := hi.length
  walk_at "ENTER"
  k_steps
  rename_i dN hN2 oN loN hsN fsN hiN fiN xN l1N hN3 FN NN
  have g0 : IObj Challenge.rw_pb0171_01.row.toRowW.prog w oN [] := ⟨[], hiN, .nil⟩
  clear hsN fsN hiN fiN
  k_dflt (refine' ForSrc.of (σ := Obj × Obj × List (Int × Int)) (fun c => (dN, c.1) :: (P, c.2.1) :: rest) (fun _ => []) [] (fun i c => IObj Challenge.rw_pb0171_01.row.toRowW.prog w c.1 c.2.2 ∧ Pen l (B + (i : Int)) c.2.1 ∧ Nums b (ns.take i) c.2.2 ∧ c.2.2.length ≤ i) (oN, o, []) (by assumption) (by assumption) (iters_list rfl (by assumption) (.tail _ (.tail _ hg))) ?hS ?hk ?h0 ?turn ?done)
  case hS => exact fun _ _ _ => .tail _ (.tail _ hg)
  case hk => kst_all
  case h0 => exact ⟨g0, by simpa using hp, .nil, Nat.le_refl _⟩
  case turn =>
    rintro i ⟨oD, oP, M⟩ v u h tk I oI hlt ⟨gD, pP, hN, hM⟩ hPv F' N' off
    obtain ⟨kk, tk', e1, rfl⟩ := intsAt hi hPv
    simp only [List.size_toArray] at hlt
    dsimp only at N' gD pP hN hM off
    have eB : B + ((i + 1 : Nat) : Int) = B + (i : Int) + 1 := by omega
    have et : ns.take (i + 1) = ns.take i ++ [kk] := by rw [List.take_add_one, e1]; rfl
    k_steps
    · refine' fpost_next (_, _, numStep b M kk) (by assumption) (by assumption) ?sub ?off ?hk ?hr ?j
      case j =>
        refine ⟨by assumption, by rw [eB]; assumption, by rw [et]; exact .take hN, ?_⟩
        have := put_length M kk (b + Int.fmod (7 * (M.length : Int)) 11)
        show (put M kk _).length ≤ i + 1
        omega
      case sub => walk_at "SUB"
      case off => k_all
      case hk => kst_all
      case hr => walk_at "FSAME"
    · refine' fpost_next (oD, _, M) (by assumption) (by assumption) ?sub ?off ?hk ?hr ?j
      case j => exact ⟨gD, by rw [eB]; assumption, by rw [et]; exact .skip hN, Nat.le_succ_of_le hM⟩
      case sub => walk_at "SUB"
      case off => k_all
      case hk => kst_all
      case hr => walk_at "FSAME"
  case done =>
    rintro ⟨oD, oP, M⟩ u h tk ⟨gD, pP, hN, hM⟩ F' N'
    rw [List.take_of_length_le (by simp [hil])] at hN
    dsimp only at N' gD pP hN hM
    k_steps
    have hpen : Pen l (B + 64) oP := by
      obtain ⟨seat, great, t1, t2, n, e, a1, a2, a3⟩ := pP
      exact ⟨seat, great, t1, t2, n, e, a1, by simp only [List.size_toArray] at a2; omega, a3⟩
    exact ret dN M oP _ _ [(dN, oD)] hN ⟨oD, .head _, gD, loN⟩ hpen (by assumption) (by assumption) (Above.cons (by walk_at "LT") Above.nil)
/-! K1 -/
/-! dict of a list of pairs of ints -/
noncomputable def putAll (M : List (Int × Int)) (ks : List (Int × Int)) : List (Int × Int) := ks.foldl (fun M k => put M k.1 k.2) M
theorem putAll_length : ∀ (ks M : List (Int × Int)), (putAll M ks).length ≤ M.length + ks.length
  | [], M => by simp [putAll]
  | k :: r, M => by
    have a := putAll_length r (put M k.1 k.2)
    have b : (put M k.1 k.2).length ≤ M.length + 1 := by unfold put; split <;> simp
    show (putAll (put M k.1 k.2) r).length ≤ _
    simp only [List.length_cons]
    omega
theorem list_no_keys : typeLookup (.type "list") "keys" = pure none := am_miss_of_fast (by decide +kernel)
theorem entry_dict_update_loop : entryFor table "dict.update.loop" = some Builtin.«dict.update.loop» := entryFor_of_tree (by kernel_rfl)
theorem plain_dict_update_loop : plainId "dict.update.loop" = true := by decide +kernel
section
variable {prog : Program} {w : World} {A : Around} {E : Value → Shared → Prop} {s : Shared}
theorem keys_miss {a : Addr} {xs : Array Value} {k : Nat} {Q : Option Value → Shared → Prop}
    (hx : s.heap.get? a = some { cls := .type "list", data := .seq xs k }) (hA : A.handled = none)
    (h : ∀ h' tk, (∀ b ob, s.heap.get? b = some ob → h'.get? b = some ob) → Q none { s with heap := h', toks := tk }) :
    wpAny (model prog w) A (getAttr? (.ref a) (Str.ofString "keys")) Q E s := by
  obtain ⟨hp, g, d, tk, os⟩ := s
  have hT : ∀ tk', (⟨hp, g, d, tk', os⟩ : Shared).TypeIs (.ref a) "list" := fun _ => ⟨_, hx, rfl⟩
  have f1 := sub_AttributeError
  have f3 := F.slot_list_getattribute.lookup
  have f4 := F.slot_list_getattribute.bind (.ref a)
  have f5 := am_list_getattr_none
  unfold getAttr? getAttrBy? getAttrBy
  repeat (any_goals (first | assumption | exact hT _ | ((with_reducible show wpAny _ _ (call (Value.builtin "list.__getattribute__") _ _) _ _ _); refine call_meets F.slot_list_getattribute (hT _) am_entry_list_getattribute (F.args_list_getattribute_2 _ _) (meets_getattribute_miss_list a xs k _ (Str.ofString "keys") _ list_no_keys (by decide +kernel) (by size_fits)) ⟨hx, hA, fun h' tk' e hx' => ?_⟩) | wp_step))
  obtain ⟨t', u', he⟩ := hx'.there
  show wpAny _ _ (getattributeRaised _ _ _ _ _ _ _) _ _ _
  unfold getattributeRaised
  repeat (any_goals (first | assumption | wp_step))
  exact h _ _ hx'.keeps
end
section
variable {prog : Program} {w : World} {A : Around} {R : Result → Shared → Prop} {s : Shared}
theorem dict_loop {l I D : Addr} {vs : List Value} {ks : List (Int × Int)} (hh : A.handled = none) (hlen : vs.length = ks.length) (h1000 : ks.length ≤ 1000) (lI : l ≠ I) (lD : l ≠ D) (iD : I ≠ D) :
    ∀ (k i : Nat) (s : Shared) (oD : Obj), vs.length - i = k → i ≤ vs.length → s.heap.IsListIter I l i → s.heap.IsList l vs.toArray →
      (∀ (j : Nat) (v : Value), vs[j]? = some v → ∃ (a : Addr) (t u : Tok) (n : Nat), v = .ref a ∧ s.heap.get? a = some (tup2 (ks.getD j (0, 0)) t u n) ∧ a ≠ I ∧ a ≠ D) →
      s.heap.get? D = some oD → IObj prog w oD (putAll [] (ks.take i)) →
      (∀ h' tk oD', (∀ b o, b ≠ I → b ≠ D → s.heap.get? b = some o → h'.get? b = some o) → h'.get? D = some oD' → IObj prog w oD' (putAll [] ks) → R (.ok (.ret .none)) { s with heap := h', toks := tk }) →
      codeAny (model prog w) A (.builtin "dict.update.loop" ⟨[.ref D, .ref I, rawInt (i : Int), .none], []⟩) R s := by
  intro k
  induction k with
  | zero =>
    intro i s oD hk hi hit hl hts hD hM hR
    have hin : i = vs.length := by omega
    subst hin
    refine codeAny_builtin entry_dict_update_loop ?_
    rw [Around.under_plainId plain_dict_update_loop _]
    show wpAny _ A.in1 (pyNext (.ref I) >>= _) _ _ s
    refine wpAny_bind (wpAny_pyNext_list_end hh hit hl (by simp) fun h₁ he₁ => ?_)
    show wpAny _ A.in1 (Builtin.Dict.addKeywords D [] >>= _) _ _ _
    refine wpAny_bind (wpAny_pure ?_)
    refine wpAny_pure ?_
    refine hR h₁ _ oD (fun b o hb _ e => he₁ b o hb e) (he₁ D _ (Ne.symm iD) hD) ?_
    rw [List.take_of_length_le (by omega)] at hM
    exact hM
  | succ k ih =>
    intro i s oD hk hi hit hl hts hD hM hR
    have hlt : i < vs.length := by omega
    obtain ⟨v, hv⟩ : ∃ v, vs[i]? = some v := ⟨_, List.getElem?_eq_getElem hlt⟩
    refine codeAny_builtin entry_dict_update_loop ?_
    rw [Around.under_plainId plain_dict_update_loop _]
    show wpAny _ A.in1 (pyNext (.ref I) >>= _) _ _ s
    refine wpAny_bind (wpAny_pyNext_list_item (x := v) hit hl (by simpa using hv) fun h₁ hit₁ hs₁ => ?_)
    obtain ⟨a, t, u, n, rfl, ha, aI, aD⟩ := hts i v hv
    have ha₁ := hs₁.extBut a _ aI ha
    have hT : Shared.TypeIs { s with heap := h₁ } (.ref a) "tuple" := ⟨_, ha₁, rfl⟩
    have hD₁ := hs₁.extBut D _ (Ne.symm iD) hD
    show wpAny _ A.in1 (holding [Value.ref a] _ >>= _) _ _ _
    refine wpAny_bind (wpAny_holding ?_)
    refine wpAny_bind (wpAny_tryCatch ?_)
    unfold Builtin.Dict.pairItems
    refine wpAny_bind (wpAny_typeOf hT ?_)
    rw [if_pos (by decide)]
    refine wpAny_bind (wpAny_seqItems ha₁ rfl (wpAny_pure ?_))
    show wpAny _ A.in1 (holding [Value.int (ks.getD i (0, 0)).1 t, Value.int (ks.getD i (0, 0)).2 u] (dictSet D (.int (ks.getD i (0, 0)).1 t) (.int (ks.getD i (0, 0)).2 u))) _ _ _
    refine wpAny_holding ?_
    obtain ⟨kvs, ho, hf⟩ := hM
    have hkl := (flat_of hf).1
    have hpl := putAll_length (ks.take i) []
    have hd : h₁.DictOf (intKind prog w) D kvs := Heap.dictOf_iff.mpr ⟨oD, hD₁, ho⟩
    refine wpAny_dictSet_pairs (knd := intKind prog w) (k := (ks.getD i (0, 0)).1) (kvs := kvs) (intKind_is _ _ _ _) hd (fun h₂ hd₂ hs₂ => ?_) (by rw [sizeLine_eq]; simp at hpl; omega)
    obtain ⟨o₂, ho₂, hd₂'⟩ := Heap.dictOf_iff.mp hd₂
    have e : ks.take (i + 1) = ks.take i ++ [ks.getD i (0, 0)] := by
      rw [List.take_add_one, List.getElem?_eq_getElem (by omega), List.getD_eq_getElem?_getD, List.getElem?_eq_getElem (by omega)]; rfl
    have hM₂ : IObj prog w o₂ (putAll [] (ks.take (i + 1))) := by
      refine ⟨_, hd₂', ?_⟩
      rw [e]
      unfold putAll
      rw [List.foldl_append]
      show FlatPairs _ _ (mapD (put _ _ _))
      rw [← putD_mapD]
      exact FlatPairs.stored (fun a b => same_int a b) hf _ (Flat.int _ u)
    refine wpAny_pure ⟨plainId_quiet plain_dict_update_loop _, ?_⟩
    have up : ∀ b o, b ≠ I → b ≠ D → s.heap.get? b = some o → h₂.get? b = some o := fun b o hb hb2 e => hs₂.extBut b o hb2 (hs₁.extBut b o hb e)
    refine ih (i + 1) { s with heap := h₂, toks := _ } o₂ (by omega) hlt (hit₁.extBut hs₂.extBut iD) (hl.at fun o e => up l o lI lD e) (fun j v hj => ?_) ho₂ hM₂ fun h' tk oD' hk' hD' hM' => ?_
    · obtain ⟨a, t, u, n, e1, e2, e3, e4⟩ := hts j v hj
      exact ⟨a, t, u, n, e1, up _ _ e3 e4 e2, e3, e4⟩
    · exact hR h' tk oD' (fun b o hb hb2 e => hk' b o hb hb2 (up b o hb hb2 e)) hD' hM'
end
section
variable {prog : Program} {w : World} {A : Around} {E : Value → Shared → Prop} {s : Shared} {h₀ : Heap} {L l : Addr} {m : Str → Option Value} {news : Ledger} {vs : List Value} {ks : List (Int × Int)} {c : Nat} {Q : Value → Shared → Prop}
theorem dict_pairs (hh : A.handled = none) (Fm : Fr h₀ L s.heap m) (N : News h₀ L s.heap news) (hbig : h₀.NoLimit) (hl : (l, ({ cls := .type "list", data := .seq vs.toArray c } : Obj)) ∈ news) (ht : Tups news vs ks) (hsz : ks.length ≤ 1000)
    (h : ∀ (D : Addr) oD h' tk, Fr h₀ L h' m → News h₀ L h' ((D, oD) :: news) → (∀ q ∈ news, q.1 < D) → (D == sysModules) = false → IObj prog w oD (putAll [] ks) → Q (.ref D) { s with heap := h', toks := tk }) :
    wpAny (model prog w) A (call (.type "dict") [.ref l]) Q E s := by
  refine callType_codes (Q₁ := fun obj s₁ => obj = .ref s.heap.objs.size ∧ s₁ = { s with heap := s.heap.push { cls := .type "dict", data := .dict #[] } }) F.kt_called_dict (F.kt_typeCall_dict_1 _) F.entry_dict_init (kt_code_dict_new _ ⟨rfl, rfl⟩) ?_
  rintro obj s₁ ⟨rfl, rfl⟩
  have hlo := Fm.notModules (modules_low hbig)
  have F1 := Fm.push { cls := .type "dict", data := .dict #[] }
  have N1 := News.push Fm N { cls := .type "dict", data := .dict #[] }
  have hlt : ∀ q ∈ news, q.1 < s.heap.objs.size := fun q hq => Heap.lt_size (N q hq).1
  have hnew : (s.heap.push { cls := .type "dict", data := .dict #[] }).DictOf (intKind prog w) s.heap.objs.size [] := Heap.DictOf.new s.heap
  have hsz1 : (s.heap.push { cls := .type "dict", data := .dict #[] }).objs.size = s.heap.objs.size + 1 := Heap.size_push ..
  generalize s.heap.objs.size = D at *
  generalize s.heap.push { cls := .type "dict", data := .dict #[] } = H at *
  refine ⟨hnew.typeIs, F.args_dict_init_2 _ _, ?_⟩
  unfold Builtin.«dict.__init__»
  refine wpAny_bind ?_
  unfold Builtin.Dict.selfAndRest
  refine wpAny_bind (wpAny_notOrdered_dict hnew.typeIs ?_)
  show wpAny _ _ (pure (D, [Value.ref l])) _ _ _
  refine wpAny_pure ?_
  show wpAny _ _ (Builtin.Dict.updateFrom "dict.__init__" D (.ref l) [] .none) _ _ _
  unfold Builtin.Dict.updateFrom
  have hlm := (N1 _ (.tail _ hl)).1
  refine wpAny_bind (wpAny_typeOf (T := "list") (s := { s with heap := H }) ⟨_, hlm, rfl⟩ ?_)
  rw [if_pos (by decide)]
  refine wpAny_bind (keys_miss (s := { s with heap := H }) hlm hh fun h₂ tk₂ up => ?_)
  show wpAny _ _ (rule _ >>= _) _ _ _
  refine wpAny_bind (wpAny_rule ?_)
  have F2 : Fr h₀ L h₂ m := F1.keeps up
  have N2 : News h₀ L h₂ _ := N1.grown up
  have hll : h₂.IsList l vs.toArray := ⟨_, (N2 _ (.tail _ hl)).1, rfl, _, rfl⟩
  refine wpAny_bind (wpAny_pyIter_list (s := { s with heap := h₂, toks := tk₂ }) hll ?_)
  have hlt2 : ∀ b o, h₂.get? b = some o → b ≠ h₂.objs.size := fun b o e => Nat.ne_of_lt (Heap.lt_size e)
  have F3 : Fr h₀ L (h₂.push { cls := .type "list_iterator", data := .fields #[.ref l, .int 0 0] }) m := F2.push _
  have N3 := News.push F2 N2 { cls := .type "list_iterator", data := .fields #[.ref l, .int 0 0] }
  have hJ : (h₂.push { cls := .type "list_iterator", data := .fields #[.ref l, .int 0 0] }).IsListIter h₂.objs.size l 0 := ⟨_, Heap.get?_push_size _ rfl, rfl, rfl⟩
  have nI := N3 _ (.head _)
  have nD := N3 _ (.tail _ (.head _))
  have lne := hlt2 _ _ (N2 _ (.tail _ hl)).1
  have dne := hlt2 _ _ (N2 _ (.head _)).1
  have hvk := ht.length
  obtain ⟨oD, hoD, hdD⟩ := Heap.dictOf_iff.mp hnew
  have hoD' := (N1 _ (.head _)).1
  rw [hoD] at hoD'
  cases hoD'
  refine wpAny_pure ⟨plainId_quiet plain_dict_update_loop _, ?_⟩
  refine dict_loop (A := A.in1) (l := l) (I := h₂.objs.size) (D := D) (vs := vs) (ks := ks) hh hvk hsz lne (Nat.ne_of_lt (hlt _ hl)) (Ne.symm dne) vs.length 0 { s with heap := h₂.push { cls := .type "list_iterator", data := .fields #[.ref l, .int 0 0] }, toks := tk₂ } _ (by omega) (Nat.zero_le _) hJ ⟨_, (N3 _ (.tail _ (.tail _ hl))).1, rfl, _, rfl⟩ (fun j v hj => ?_) nD.1 ⟨[], hdD, .nil⟩ fun h' tk oD' keep hD' hM' => ?_
  · have hj2 : j < vs.length := (List.getElem?_eq_some_iff.mp hj).1
    obtain ⟨a, t, u, n, e1, e2⟩ := ht.at j (by omega)
    rw [List.getD_eq_getElem?_getD, hj] at e1
    have z := N3 _ (.tail _ (.tail _ e2))
    exact ⟨a, t, u, n, e1, z.1, hlt2 _ _ (N2 _ (.tail _ e2)).1, Nat.ne_of_lt (hlt _ e2)⟩
  · refine ⟨rfl, h D oD' h' tk ?_ ?_ hlt hlo hM'⟩
    · refine ⟨F3.ns.at' fun o e => keep _ o (Ne.symm nI.2.1) (Ne.symm nD.2.1) e, fun b o e => keep b o ?_ ?_ (F3.keep b o e), F3.above⟩
      · intro q; subst q; rw [nI.2.2] at e; cases e
      · intro q; subst q; rw [nD.2.2] at e; cases e
    · intro p hp
      rcases List.mem_cons.mp hp with rfl | hp
      · exact ⟨hD', nD.2⟩
      · have z := N3 _ (.tail _ (.tail _ hp))
        exact ⟨keep _ _ (hlt2 _ _ (N2 _ (.tail _ hp)).1) (Nat.ne_of_lt (hlt _ hp)) z.1, z.2⟩
end
/-! B19 -/
theorem value_callG {w : World} {A : Around} {h₀ : Heap} {L : Addr} {m : Str → Option Value} {s : Shared} {news : Ledger} {F sym : Obj → Ledger} {G : Obj → Ledger → Ledger} {P l : Addr} {o : Obj} {B : Int} {Q E : Value → Shared → Prop}
   (cx : Cx w A h₀ L m s news 10 80) (hp : Pen l B o) (hB : B < 9990) (U : ∀ o', Upd P o o' news (F o')) (hG : ∀ o' tl, Mv tl (sym o') (F o') (G o' tl)) (hl : Script news l)
   (ret : ∀ v p q o' h' tk' tl, PairAt tl v p q → Pen l (B + 2) o' → Above news tl → Fr h₀ L h' m → News h₀ L h' (G o' tl) → Q v { s with heap := h', toks := tk' }) :
   wpAny (model Challenge.rw_pb0171_01.row.toRowW.prog w) A (call (.ref 266) [.ref P]) Q E s := by
  have N := cx.news
  have hPold := upd_old (U o)
  have hne : l ≠ P := by
    obtain ⟨seat, great, t1, t2, n, rfl, h0, h1, h2⟩ := hp
    obtain ⟨vs, ns, k, hmem, hi, hlen⟩ := hl
    intro e
    subst e
    have a := (N _ hPold).1
    have b := (N _ hmem).1
    dsimp only at a b
    rw [a] at b
    have c := congrArg Obj.data (Option.some.inj b)
    dsimp only at c
    have d := (Data.seq.inj c).1
    have e := congrArg Array.toList d
    simp at e
    rw [← e] at hi
    cases hi
  refine value_call (l := l) (B := B) (o := o) (rest := news.filter fun p => decide (p.1 ≠ P)) (cx.sub ?_) ?_ hp hB ?_ ?_
  · intro p hp
    rcases List.mem_cons.mp hp with rfl | hp
    · exact hPold
    · exact (List.mem_filter.mp hp).1
  · intro p hp
    simpa using (List.mem_filter.mp hp).2
  · obtain ⟨vs, ns, k, hmem, hi, hlen⟩ := hl
    exact ⟨vs, ns, k, List.mem_filter.mpr ⟨hmem, by simpa using hne⟩, hi, hlen⟩
  · intro v p q o' h' tk' tl hv hp' F' N' ha
    refine ret v p q o' h' tk' tl hv hp' (fun x hx y hy => ?_) F' fun y hy => ?_
    · by_cases e : y.1 = P
      · rw [e]; exact ha x hx _ (.head _)
      · exact ha x hx y (.tail _ (List.mem_filter.mpr ⟨hy, by simpa using e⟩))
    · rcases List.mem_append.mp ((hG o' tl).sub y hy) with h | h
      · exact N' _ (List.mem_append_left _ h)
      · rcases upd_mem (U o') y h with rfl | ⟨h, hne⟩
        · exact N' _ (List.mem_append_right _ (.head _))
        · exact N' _ (List.mem_append_right _ (.tail _ (List.mem_filter.mpr ⟨h, by simpa using hne⟩)))
theorem reg38 : True := by
  k_with "call ref" => (k_here; (with_reducible show wpAny _ _ (call (Value.ref 266) [Value.ref _]) _ _ _); k_dflt (refine' value_callG ?zcx ?zhp ?zhB ?zU ?zhG ?zhl ?_; (case zcx => walk_at "CX"); (case zU => intro o'; k_upd); (case zhG => intro o' tl'; walk_at "MV"); (case zhp => assumption); (case zhB => omega); (case zhl => refine Script.mono (by assumption) ?_; intro p hp; k_ownIn); intros; refine PairAt.elim ‹PairAt _ _ _ _› ?_; intros; (rename_i e9 _ _ _; subst e9)))
  k_with "call type:dict" => (k_here; k_dflt (refine' dict_pairs ?zhh ?zF ?zN ?zhb ?zhl ?zht ?zhz ?_; (case zhh => exact rfl); (case zF => k_asm); (case zN => k_asm); (case zhb => exact Top.nolimit (by assumption)); (case zhl => k_mem); (case zht => refine Tups.mono (by assumption) ?_; walk_at "SUB"); (case zhz => omega)); intros; (rename_i l1 _ _; k_lt l1; revert l1; intros))
  trivial
section
variable {prog : Program} {w : World} {A : Around} {E : Value → Shared → Prop} {s : Shared} {h₀ : Heap} {L : Addr} {m : Str → Option Value} {env : Env} {ct elt : Expr} {x : Str} {scope : Scope} {cl : List (Str × Addr)} {Q : Value → Shared → Prop} {xv : Value} {s₁ : Shared} {S : Ledger → Prop} {P : Nat → Value → Prop} {n : Nat}
noncomputable def GrowS {σ : Type} (Led : σ → Ledger) (R : Nat → List Value → σ → Prop) (i : Nat) (ys : List Value) (nw : Ledger) : Prop := ∃ c, (∀ p ∈ Led c, p ∈ nw) ∧ R i ys c
theorem off1_of {D : Addr} : ∀ {l : Ledger}, (∀ p ∈ l, p.1 ≠ D) → LCg.Off1 D l
  | [], _ => trivial
  | _ :: _, h => ⟨h _ List.mem_cons_self, off1_of fun p hp => h p (List.mem_cons_of_mem _ hp)⟩
theorem fin_sub {nw nw' : Ledger} {ys : List Value} (h : LCg.FinE h₀ L m s₁ Q ys nw) (k : ∀ p ∈ nw, p ∈ nw') : LCg.FinE h₀ L m s₁ Q ys nw' := fun D h' tk F N o => h D h' tk F (newsSub N fun p hp => by
  rcases List.mem_cons.mp hp with rfl | hp
  · exact .head _
  · exact .tail _ (k p hp)) (off1_of fun p hp => off1_ne o p (k p hp))
theorem news3_sub {h : Heap} {a b c : Addr × Obj} {nw nw' : Ledger} (N : News h₀ L h (a :: b :: c :: nw')) (k : ∀ p ∈ nw, p ∈ nw') : News h₀ L h (a :: b :: c :: nw) := newsSub N fun p hp => by
  rcases List.mem_cons.mp hp with rfl | hp
  · exact .head _
  · rcases List.mem_cons.mp hp with rfl | hp
    · exact .tail _ (.head _)
    · rcases List.mem_cons.mp hp with rfl | hp
      · exact .tail _ (.tail _ (.head _))
      · exact .tail _ (.tail _ (.tail _ (k p hp)))
theorem src_growS {σ : Type} (Led : σ → Ledger) (R : Nat → List Value → σ → Prop) (c₀ : σ) (F : Fr h₀ L s₁.heap m) (N : News h₀ L s₁.heap (Led c₀)) (I : Iters prog w A h₀ L S P n xv s₁) (hsz : n ≤ sizeLine) (hS : ∀ c, S (Led c)) (h0 : R 0 [] c₀)
    (turn : ∀ i ys c v I oI C oC D m₂ h tk (E' : Value → Shared → Prop), i < n → R i ys c → P i v → LCg.NsObj oC m₂ → m₂ x = some v → Fr h₀ L h m → News h₀ L h ((I, oI) :: (C, oC) :: (D, LCg.lst ys) :: Led c) → LCg.Off3 I C D (Led c) → ((@Ne Nat I C) ∧ (@Ne Nat I D) ∧ (@Ne Nat C D)) →
      wpAny (model prog w) A (eval elt (compEnvC scope cl C env)) (LCg.CompEnd h₀ L m { s₁ with heap := h, toks := tk } I oI C oC D (LCg.lst ys) S (fun y nw' => GrowS Led R (i + 1) (ys ++ [y]) nw')) E' { s₁ with heap := h, toks := tk })
    (fin : ∀ g ys c, R n ys c → LCg.FinE h₀ L m { s₁ with heap := g } Q ys (Led c)) : CompSrcW prog w A h₀ L m env elt x scope cl Q xv s₁ := by
  refine ⟨Led c₀, S, P, n, F, N, I, hsz, hS c₀, fun g => rest_ind (GrowS Led R) ?_ ?_ ⟨c₀, fun _ h => h, h0⟩⟩
  · rintro i ys nw v I oI C oC D m₂ h tk E' hi ⟨c, hsub, hr⟩ hP hC hx F' N' off ne
    exact turn i ys c v I oI C oC D m₂ h tk E' hi hr hP hC hx F' (news3_sub N' hsub) (LCg.Off3.of fun p hp => LCg.Off3.mem off p (hsub p hp)) ne
  · rintro ys nw ⟨c, hsub, hr⟩
    exact fin_sub (fin g ys c hr) hsub
theorem src_growTS {σ : Type} (Led : σ → Ledger) (R : Nat → List Value → σ → Prop) (c₀ : σ) (F : Fr h₀ L s₁.heap m) (N : News h₀ L s₁.heap (Led c₀)) (I : Iters prog w A h₀ L S P n xv s₁) (hsz : n ≤ sizeLine) (hS : ∀ c, S (Led c)) (h0 : R 0 [] c₀)
    (turn : ∀ i ys c v I oI C oC D m₂ h tk (E' : Value → Shared → Prop), i < n → R i ys c → P i v → LCg.NsObj oC m₂ → m₂ x = some v → Fr h₀ L h m → News h₀ L h ((I, oI) :: (C, oC) :: (D, LCg.lst ys) :: Led c) → LCg.Off3 I C D (Led c) → ((@Ne Nat I C) ∧ (@Ne Nat I D) ∧ (@Ne Nat C D)) →
      wpAny (model prog w) A (isTrue ct (compEnvC scope cl C env) (eval ct (compEnvC scope cl C env))) (fun ok s' => if ok = true then
        wpAny (model prog w) A (eval elt (compEnvC scope cl C env)) (LCg.CompEnd h₀ L m { s₁ with heap := h, toks := tk } I oI C oC D (LCg.lst ys) S (fun y nw' => GrowS Led R (i + 1) (ys ++ [y]) nw')) E' s'
        else LCg.CompEnd h₀ L m { s₁ with heap := h, toks := tk } I oI C oC D (LCg.lst ys) S (fun _ nw' => GrowS Led R (i + 1) ys nw') Value.none s') E' { s₁ with heap := h, toks := tk })
    (fin : ∀ g ys c, R n ys c → LCg.FinE h₀ L m { s₁ with heap := g } Q ys (Led c)) : CompSrcWT prog w A h₀ L m env ct elt x scope cl Q xv s₁ := by
  refine ⟨Led c₀, S, P, n, F, N, I, hsz, hS c₀, fun g => rest_indT (GrowS Led R) ?_ ?_ ⟨c₀, fun _ h => h, h0⟩⟩
  · rintro i ys nw v I oI C oC D m₂ h tk E' hi ⟨c, hsub, hr⟩ hP hC hx F' N' off ne
    exact turn i ys c v I oI C oC D m₂ h tk E' hi hr hP hC hx F' (news3_sub N' hsub) (LCg.Off3.of fun p hp => LCg.Off3.mem off p (hsub p hp)) ne
  · rintro ys nw ⟨c, hsub, hr⟩
    exact fin_sub (fin g ys c hr) hsub
end
/-! a list comprehension stored at once -/
noncomputable def CompSrcWA (prog : Program) (w : World) (A : Around) (h₀ : Heap) (L : Addr) (m : Str → Option Value) (env : Env) (elt : Expr) (x : Str) (scope : Scope) (cl : List (Str × Addr)) (y : Str) (Q : Flow → Shared → Prop) (xv : Value) (s₁ : Shared) : Prop :=
  ∃ news S P n, Fr h₀ L s₁.heap m ∧ News h₀ L s₁.heap news ∧ Iters prog w A h₀ L S P n xv s₁ ∧ n ≤ sizeLine ∧ S news ∧
    ∀ g, LCg.CompRest prog w A h₀ L m env elt x scope cl { s₁ with heap := g } S P (LCg.FinA h₀ L m { s₁ with heap := g } y Q) n 0 [] news
section
variable {prog : Program} {w : World} {A : Around} {E : Value → Shared → Prop} {s : Shared} {h₀ : Heap} {L : Addr} {m : Str → Option Value} {env : Env}
theorem Assign_ListComp_W {elt iter : Expr} {x y : Str} {px py : Pos} {scope : Scope} {cl : List (Str × Addr)} {pos spos : Pos} {Q : Flow → Shared → Prop} (F₀ : Fr h₀ L s.heap m) (hLe : env.locals = L)
    (hsw : swapsWith (.ListComp elt [⟨.Name x px, iter, [], 0⟩] scope pos) (some (.Name y py)) spos.line env = pure true)
    (hclos : closureFor scope env = pure cl) (hcell : ∀ z ∈ scope.names, z.2 ≠ .cell) (hkind : scope.kind = .function)
    (hnames : ∀ z ∈ scope.names, z.2 = .local → scope.names.lookup z.1 = some .local) (hx : scope.names.lookup x = some .local)
    (hy : env.kindOf y = some .local) (hp : (env.scope.kind == .class || (env.scope.kind == .module && env.locals != env.globals)) = false)
    (h : wpAny (model prog w) A (eval iter env) (CompSrcWA prog w A h₀ L m env elt x scope cl y Q) E s)
    (hs : ∀ x, foldedSetIterable iter env x = pure x := by intro _; rfl) :
    wpAny (model prog w) A (exec (.Assign [.Name y py] (.ListComp elt [⟨.Name x px, iter, [], 0⟩] scope pos) spos) env) Q E s := by
  subst hLe
  rw [exec_Assign_Name_used _ _ _ _ hsw]
  refine wpAny_bind (wpAny_standAt (wpAny_bind ?_))
  show wpAny _ A (do let _ ← comprehension (.ListComp elt [⟨.Name x px, iter, [], 0⟩] scope pos) scope env _ (newList []) false (eval iter env) (some (assign (.Name y py) env))) _ _ s
  refine wpAny_bind (wpAny_mono (wpAny_comprehension_free (use := some (assign (.Name y py) env)) (Q := fun _ s' => Q .next s') rfl hs hclos hkind hnames
    (wpAny_mono h (fun xv s₁ h₁ => ?_) fun _ _ e => e)) (fun _ s' hq => wpAny_pure (wpAny_pure hq)) fun _ _ e => e)
  obtain ⟨news, S, P, n, F, N, I, hsz, hS, R⟩ := h₁
  refine I _ _ fun oI fp St W hIo hSt st hfp => ?_
  have up : ∀ b o, s₁.heap.get? b = some o → (s₁.heap.push oI).get? b = some o := fun b o e => Heap.get?_push_of_some _ e
  refine LCg.block_U W hsz hIo hSt hcell hkind hx st hfp (F.keeps up) (N.grown up) (Nat.ne_of_lt F.ns.lt) (next_is_new F) (fun p hp => Nat.ne_of_lt (Heap.lt_size (N p hp).1)) hS (R _) ?_
  intro D C h' tk m' ys news' F' N' o1 hn hC₀ hD₀ hCL hDL hCD offC fin
  show wpAny _ A (assign (.Name y py) env (.ref D)) _ _ _
  refine wpAny_assign_Name (wpAny_storeName_local hy F'.ns (fun h₂ hn₂ hs₂ => ?_) hp)
  have hL₀ : h₀.get? env.locals = none := Heap.get?_none_of_le F'.above
  have F₂ : Fr h₀ env.locals h₂ (fun z => if z = y then some (.ref D) else m z) := ⟨hn₂, fun b o e => hs₂.extBut b o (fun q => by rw [q, hL₀] at e; cases e) (F'.keep b o e), F'.above⟩
  refine ⟨m', hn.sameBut hs₂ hCL, fun h'' hs'' => fin D h'' _ (F₂.change hs'' hCL hC₀) (fun p hp => ?_) o1⟩
  have z : h₂.get? p.1 = some p.2 := hs₂.extBut _ _ (N' p hp).2.1 (N' p hp).1
  refine ⟨hs''.extBut _ _ ?_ z, (N' p hp).2⟩
  rcases List.mem_cons.mp hp with rfl | hp
  · exact Ne.symm hCD
  · exact offC p hp
theorem fina_sub {y : Str} {Q : Flow → Shared → Prop} {nw nw' : Ledger} {ys : List Value} {s₁ : Shared} (h : LCg.FinA h₀ L m s₁ y Q ys nw) (k : ∀ p ∈ nw, p ∈ nw') : LCg.FinA h₀ L m s₁ y Q ys nw' := fun D h' tk F N o => h D h' tk F (newsSub N fun p hp => by
  rcases List.mem_cons.mp hp with rfl | hp
  · exact .head _
  · exact .tail _ (k p hp)) (off1_of fun p hp => off1_ne o p (k p hp))
theorem src_growSA {elt : Expr} {x y : Str} {scope : Scope} {cl : List (Str × Addr)} {Q : Flow → Shared → Prop} {xv : Value} {s₁ : Shared} {S : Ledger → Prop} {P : Nat → Value → Prop} {n : Nat} {σ : Type} (Led : σ → Ledger) (R : Nat → List Value → σ → Prop) (c₀ : σ) (F : Fr h₀ L s₁.heap m) (N : News h₀ L s₁.heap (Led c₀)) (I : Iters prog w A h₀ L S P n xv s₁) (hsz : n ≤ sizeLine) (hS : ∀ c, S (Led c)) (h0 : R 0 [] c₀)
    (turn : ∀ i ys c v I oI C oC D m₂ h tk (E' : Value → Shared → Prop), i < n → R i ys c → P i v → LCg.NsObj oC m₂ → m₂ x = some v → Fr h₀ L h m → News h₀ L h ((I, oI) :: (C, oC) :: (D, LCg.lst ys) :: Led c) → LCg.Off3 I C D (Led c) → ((@Ne Nat I C) ∧ (@Ne Nat I D) ∧ (@Ne Nat C D)) →
      wpAny (model prog w) A (eval elt (compEnvC scope cl C env)) (LCg.CompEnd h₀ L m { s₁ with heap := h, toks := tk } I oI C oC D (LCg.lst ys) S (fun y nw' => GrowS Led R (i + 1) (ys ++ [y]) nw')) E' { s₁ with heap := h, toks := tk })
    (fin : ∀ g ys c, R n ys c → LCg.FinA h₀ L m { s₁ with heap := g } y Q ys (Led c)) : CompSrcWA prog w A h₀ L m env elt x scope cl y Q xv s₁ := by
  refine ⟨Led c₀, S, P, n, F, N, I, hsz, hS c₀, fun g => rest_ind (GrowS Led R) ?_ ?_ ⟨c₀, fun _ h => h, h0⟩⟩
  · rintro i ys nw v I oI C oC D m₂ h tk E' hi ⟨c, hsub, hr⟩ hP hC hx F' N' off ne
    exact turn i ys c v I oI C oC D m₂ h tk E' hi hr hP hC hx F' (news3_sub N' hsub) (LCg.Off3.of fun p hp => LCg.Off3.mem off p (hsub p hp)) ne
  · rintro ys nw ⟨c, hsub, hr⟩
    exact fina_sub (fin g ys c hr) hsub
end
theorem reg39 : True := by
  k_with "FinA" => ((unfold LCg.FinA); intros; (rename_i n9 o9; replace o9 := off1_ne o9; (try simp only [List.nil_append, List.cons_append] at n9); revert n9 o9; intros); (try dsimp only))
  k_with "NE" => first | assumption | (refine Ne.symm ?_; assumption) | exact Nat.ne_of_lt (by assumption) | exact Nat.ne_of_gt (by assumption) | fail "mine"
  k_with "SUBS" => first | exact List.forall_mem_nil _ | (refine List.forall_mem_cons.mpr ⟨by k_mem, ?_⟩; walk_at "SUBS") | (refine List.forall_mem_append.mpr ⟨?_, ?_⟩ <;> walk_at "SUBS") | (intro p hp; k_ownIn)
  trivial
/-! B20 -/
theorem Pen.mono {l : Addr} {B B' : Int} {o : Obj} (h : Pen l B o) (k : B ≤ B') : Pen l B' o := by
  obtain ⟨seat, great, t1, t2, n, e, a1, a2, a3⟩ := h
  exact ⟨seat, great, t1, t2, n, e, a1, by omega, a3⟩
theorem range_of {d : Int} (h0 : 0 ≤ d) (h1 : d < 100) : Builtin.Range.small 0 d 1 = true ∧ Builtin.Range.rangeSize 0 d 1 = ((d.toNat : Nat) : Int) := by
  exact ⟨small_one (by omega) (by omega) (by omega) (by omega), by rw [rangeSize_nat]; simp⟩
noncomputable def KeysOk (P : PT) : Prop := (∀ p ∈ P, 0 ≤ p.1.1 ∧ p.1.1 < 10 ∧ 0 ≤ p.1.2 ∧ p.1.2 < 10) ∧ (P.map (·.1)).Nodup
theorem pput_keys (P : PT) (k v : Int × Int) : ∀ p ∈ pput P k v, p.1 = k ∨ ∃ q ∈ P, p.1 = q.1 := by
  intro p hp
  unfold pput at hp
  split at hp
  · obtain ⟨q, hq, rfl⟩ := List.mem_map.mp hp
    refine .inr ⟨q, hq, ?_⟩
    split <;> rfl
  · rcases List.mem_append.mp hp with h | h
    · exact .inr ⟨p, h, rfl⟩
    · simp at h; subst h; exact .inl rfl
theorem pget_none {P : PT} {k : Int × Int} (h : pget P k = none) : ∀ p ∈ P, p.1 ≠ k := by
  induction P with
  | nil => intro p hp; simp at hp
  | cons x r ih =>
    rw [show pget (x :: r) k = if x.1 = k then some x.2 else pget r k from rfl] at h
    by_cases e : x.1 = k
    · rw [if_pos e] at h; cases h
    · rw [if_neg e] at h
      intro p hp
      rcases List.mem_cons.mp hp with rfl | hp
      · exact e
      · exact ih h p hp
theorem pput_nodup {P : PT} (k v : Int × Int) (h : (P.map (·.1)).Nodup) : ((pput P k v).map (·.1)).Nodup := by
  unfold pput
  split
  · rw [List.map_map]
    have e : P.map ((fun x => x.1) ∘ fun x => if x.1 = k then (x.1, v) else x) = P.map (·.1) := List.map_congr_left fun p _ => by simp only [Function.comp]; split <;> rfl
    rw [e]; exact h
  · rename_i hs
    have hn : pget P k = none := by cases hq : pget P k <;> simp_all
    rw [List.map_append, List.nodup_append]
    refine ⟨h, by simp, ?_⟩
    intro a ha b hb e
    simp at hb
    subst hb
    obtain ⟨p, hp, rfl⟩ := List.mem_map.mp ha
    exact pget_none hn p hp e
theorem KeysOk.put {P : PT} {k v : Int × Int} (h : KeysOk P) (h1 : 0 ≤ k.1) (h2 : k.1 < 10) (h3 : 0 ≤ k.2) (h4 : k.2 < 10) : KeysOk (pput P k v) := by
  refine ⟨fun p hp => ?_, pput_nodup k v h.2⟩
  rcases pput_keys P k v p hp with e | ⟨q, hq, e⟩
  · rw [e]; exact ⟨h1, h2, h3, h4⟩
  · rw [e]; exact h.1 q hq
theorem pput_length (P : PT) (k v : Int × Int) : (pput P k v).length ≤ P.length + 1 := by unfold pput; split <;> simp
theorem reg40 : True := by
  k_with "eval ListComp ListComp cons" => walk_at "LCW"
  k_with "exec Assign cons ListComp" => (k_here; (with_reducible show wpAny _ _ (exec (Stmt.Assign [Expr.Name _ _] (Expr.ListComp _ [⟨Expr.Name _ _, _, [], _⟩] _ _) _) _) _ _ _); k_dflt (refine' Assign_ListComp_W ?zF ?zle ?zsw ?zc ?zk1 ?zk2 ?zk3 ?zk4 ?zk5 ?zk6 ?_; (case zF => k_asm); (case zle => exact rfl); (case zsw => with_unfolding_all rfl); (case zc => with_unfolding_all rfl); (case zk1 => decide); (case zk2 => exact rfl); (case zk3 => decide); (case zk4 => exact rfl); (case zk5 => exact rfl); (case zk6 => exact rfl)))
  trivial
theorem tupsSnoc {news : Ledger} {vs : List Value} {ks : List (Int × Int)} {v : Value} {k : Int × Int} (h : Tups news vs ks) (hv : TupAt news v k) : Tups news (vs ++ [v]) (ks ++ [k]) := by
  induction h with
  | nil => exact .cons hv .nil
  | cons a _ ih => exact .cons a ih
theorem sub_front4 {α : Type} {a b c d x : α} {t2 t rest : List α} : ∀ p ∈ a :: b :: c :: d :: ((x :: (t2 ++ t)) ++ rest), p ∈ x :: a :: b :: c :: d :: (t2 ++ (t ++ rest)) := by
  intro p hp
  simp only [List.cons_append, List.append_assoc, List.mem_cons, List.mem_append] at hp ⊢
  rcases hp with h | h | h | h | h | h | h | h <;> simp [h]
theorem Above.addr {big small tl : Ledger} (h : Above big tl) (k : ∀ p ∈ small, ∃ q ∈ big, q.1 = p.1) : Above small tl := fun x hx p hp => by
  obtain ⟨q, hq, e⟩ := k p hp
  rw [← e]; exact h x hx q hq
theorem ne_addr {big small : Ledger} {D : Addr} (h : ∀ q ∈ big, q.1 ≠ D) (k : ∀ p ∈ small, ∃ q ∈ big, q.1 = p.1) : ∀ p ∈ small, p.1 ≠ D := fun p hp => by
  obtain ⟨q, hq, e⟩ := k p hp
  rw [← e]; exact h q hq
theorem addr_head {P : Addr} {o : Obj} {l : Ledger} : ∃ q ∈ (P, o) :: l, q.1 = P := ⟨_, .head _, rfl⟩
theorem addr_tail {P : Addr} {x : Addr × Obj} {l : Ledger} (h : ∃ q ∈ l, q.1 = P) : ∃ q ∈ x :: l, q.1 = P := let ⟨q, a, b⟩ := h; ⟨q, .tail _ a, b⟩
theorem reg41 : True := by
  k_with "AT" => ((try dsimp only); first | exact addr_head | (refine addr_tail ?_; walk_at "AT"))
  k_with "SUBA" => first | exact List.forall_mem_nil _ | (refine List.forall_mem_cons.mpr ⟨?_, ?_⟩; walk_at "AT"; walk_at "SUBA") | (refine List.forall_mem_append.mpr ⟨?_, ?_⟩ <;> walk_at "SUBA") | (intro p hp; refine ⟨p, ?_, rfl⟩; k_ownIn)
  trivial
theorem PL.snoc {news : Ledger} {vs : List Value} {xs : List (Int × Int)} {v : Value} {x : Int × Int} (h : PL news vs xs) (k : PairAt news v x.1 x.2) : PL news (vs ++ [v]) (xs ++ [x]) := h.append (.cons k .nil)
theorem RowL.snoc {news : Ledger} {rows : List (Addr × List Value)} {R : List (List (Int × Int))} (h : RowL news rows R) {a : Addr} {vs : List Value} {n : Nat} {xs : List (Int × Int)} (m : (a, ({ cls := .type "list", data := .seq vs.toArray n } : Obj)) ∈ news) (k : PL news vs xs) : RowL news (rows ++ [(a, vs)]) (R ++ [xs]) := by
  induction h with
  | nil => exact .cons m k .nil
  | cons a b _ ih => exact .cons a b ih
inductive SplP (P : Addr) (o : Obj) (rest : Ledger) : Ledger → Ledger → Prop
  | pen {x : Addr × Obj} {t t' : Ledger} : SplP P o rest (x :: (P, o) :: (t ++ (t' ++ rest))) (t ++ t')
  | cons {p : Addr × Obj} {l tl : Ledger} : SplP P o rest l tl → SplP P o rest (p :: l) (p :: tl)
theorem SplP.sub {P : Addr} {o : Obj} {rest l tl : Ledger} (h : SplP P o rest l tl) : ∀ p ∈ tl ++ (P, o) :: rest, p ∈ l := by
  induction h with
  | pen => intro p hp; simp only [List.append_assoc, List.mem_append, List.mem_cons] at hp ⊢; rcases hp with h | h | h | h <;> simp [h]
  | cons _ ih =>
    intro p hp
    rcases List.mem_cons.mp hp with rfl | hp
    · exact .head _
    · exact .tail _ (ih p hp)
theorem reg42 : True := by
  k_with "SPLP" => first | exact SplP.pen | (refine' SplP.cons ?zsp1; (case zsp1 => walk_at "SPLP"))
  k_with "ALT" => first | exact ⟨by assumption, AllLt.sub (by assumption) (by intro p hp; k_ownIn)⟩ | (refine AllLt.up ?_ (by assumption); exact ⟨by assumption, AllLt.sub (by assumption) (by intro p hp; k_ownIn)⟩) | fail "mine"
  k_with "ABH" => first | (refine allLt_ne ?_; walk_at "ALT") | (refine ne_addr (by assumption) ?_; walk_at "SUBA") | fail "mine"
  k_with "ABV" => first | exact Above.nil | assumption | (refine' Above.append ?zaa ?zab; (case zaa => walk_at "ABV"); (case zab => walk_at "ABV")) | (refine' Above.consNe ?zah ?zac; (case zah => walk_at "ABH"); (case zac => walk_at "ABV")) | fail "mine"
  trivial
theorem store_bool {M : Model} {A : Around} {E : Value → Shared → Prop} {s : Shared} {env : Env} {x : Str} {b : Bool} {Q : Unit → Shared → Prop} (h : ∀ b', wpAny M A (storeName env x (.bool b')) Q E s) : wpAny M A (storeName env x (.bool b)) Q E s := h b
theorem reg43 : True := by
  k_with "storeName bool" => (k_here; (with_reducible show wpAny _ _ (storeName _ _ (Value.bool (_ == _))) _ _ _); k_dflt (refine store_bool ?_); intros)
  k_with "call type:range" => (k_here; (with_reducible show wpAny _ _ (call _ [_]) _ _ _); k_dflt (with_unfolding_all refine' range1_rows ?zF ?zN ?_; (case zF => k_asm); (case zN => k_asm)); intros)
  trivial
theorem tables_call {w : World} {A : Around} {h₀ : Heap} {L : Addr} {m : Str → Option Value} {s : Shared} {rest : Ledger} {P l : Addr} {o : Obj} {B : Int} {Q E : Value → Shared → Prop}
   (cx : Cx w A h₀ L m s ((P, o) :: rest) 16 600) (hP : ∀ p ∈ rest, p.1 ≠ P) (hp : Pen l B o) (hB : B < 9000) (hl : Script rest l)
   (ret : ∀ v h' tk' tl x1 x2 n Pt ns ks ks2 R b o', (v, ({ cls := .type "list", data := .seq #[.ref x1, .ref x2] n } : Obj)) ∈ tl → PG Challenge.rw_pb0171_01.row.toRowW.prog w tl x1 Pt (b || moves Pt) → PC Challenge.rw_pb0171_01.row.toRowW.prog w tl x2 ns (putAll [] ks) (putAll [] ks2) R (b || movesL R.flatten) →
     KeysOk Pt → Pt.length < 64 → ns.Pairwise (· < ·) → (∀ g ∈ ns, 0 ≤ g ∧ g < 10) → ns.length ≤ 10 → (∀ k ∈ ks, 0 ≤ k.1 ∧ k.1 < 10 ∧ 1 ≤ k.2 ∧ k.2 ≤ 2) → ks.length ≤ 10 → (∀ k ∈ ks2, 0 ≤ k.1 ∧ k.1 < 10 ∧ k.2 = 1) → ks2.length ≤ 10 → R.length = 3 → (∀ row ∈ R, row.length = 2) →
     Pen l (B + 100) o' → Fr h₀ L h' m → News h₀ L h' (tl ++ (P, o') :: rest) → Above ((P, o) :: rest) tl → Q (.ref v) { s with heap := h', toks := tk' }) :
   wpAny (model Challenge.rw_pb0171_01.row.toRowW.prog w) A (call (.ref 271) [.ref P]) Q E s := by
  walk_at "ENTERC"
  k_steps
  rename_i gg L1 hX1 tkX1 FX1 BX1 XX1 TX1 xx1 lx1 oCell hCell dN hN1 oN loN hsN fsN hiN fiN xN1 xN2 l1N hN2 FN NN dz tz oP1 hN3 tkN dz0 dz1 hpN FN3 NN3 hN4 tkN4 t1 t2 t3 hrange FN4 NN4 upN
  have g0 := gobj_empty (news := []) hiN
  clear hsN fsN hiN fiN
  obtain ⟨rs, rn⟩ := range_of dz0 (by omega)
  k_dflt (refine' ForSrc.of (σ := Obj × Obj × Ledger × List GE × PT) (fun c => (dN, c.1) :: (L1 + 1, oCell) :: (P, c.2.1) :: (c.2.2.1 ++ rest)) (fun _ => []) [Str.ofString "first", Str.ofString "second"] (fun i c => GObj Challenge.rw_pb0171_01.row.toRowW.prog w c.2.2.1 c.1 c.2.2.2.1 ∧ PV c.2.2.1 c.2.2.2.1 c.2.2.2.2 ∧ Above ((dN, oN) :: (L1 + 1, oCell) :: (P, oN) :: rest) c.2.2.1 ∧ c.2.2.2.1.length ≤ i ∧ Pen l (B + 1 + 4 * (i : Int)) c.2.1 ∧ KeysOk c.2.2.2.2) (oN, oP1, [], [], []) (by assumption) (by assumption) (iters_range rfl (by assumption) rs rn) ?hS ?hk ?h0 ?turn ?done)
  case hS => exact fun _ _ _ => trivial
  case hk => kst_all
  case h0 => exact ⟨g0, .nil, Above.nil, Nat.le_refl _, by simpa using hpN, ⟨fun _ h => by simp at h, .nil⟩⟩
  case turn =>
    rintro i ⟨oD, oP, tl, D, Pt⟩ v u h tk I oI hlt ⟨gD, pD, aD, lD, pP, kD⟩ hPv F' N' off
    obtain ⟨ti, rfl⟩ := hPv
    dsimp only at N' gD pD aD lD pP kD off F'
    have hi9 : i < 9 := by omega
    k_steps
    rename_i fz ft oP2 hT1 tkT1 fz0 fz1 hpT1 hT2 tkT2 sz st oP3 hT3 tkT3 sz0 sz1 hpT3 hT4 FT4 NT4 pz qz oP4 hT5 tkT5 tl2 hpT5 haT5 FT5 NT5 yv y1 y2 yn ymv yv1 yv2 hvT5 DT hT6 FT6 NT6 z1 z2 z3 z4 z5
    k_dflt (refine' g_set (news := (DT, _) :: (tl2 ++ tl)) (k := (fz, sz)) (D := D) ?F ?N ?hu ?sub ?U ?g ?ht ?hz ?_)
    case F => assumption
    case N => exact NT6
    case hu => ke_room
    case U => k_updF
    case g => exact gD.mono fun q hq => .tail _ (List.mem_append_right _ hq)
    case sub => walk_at "SUB"
    case ht => exact ⟨_, _, _, _, rfl, .head _⟩
    case hz => omega
    intro h3 o3 tk3 F3 N3 g3
    dsimp only
    k_steps
    refine' fpost_next (o3, oP4, (DT, tup2 (fz, sz) ft st 0) :: (tl2 ++ tl), gput D (fz, sz) DT (.ref yv), pput Pt (fz, sz) (pz, qz)) (by assumption) (by assumption) ?sub ?off ?hk ?hr ?j
    case j =>
      dsimp only
      refine ⟨g3, ?pv, ?ab, Nat.le_trans (gput_length _ _ _ _) (Nat.succ_le_succ lD), hpT5.mono (by omega), kD.put fz0 fz1 sz0 sz1⟩
      case ab =>
        refine Above.cons ⟨z2, z3, z4, allLt_right (allLt_right z5)⟩ (Above.append ?_ aD)
        intro y hy p' hp'
        have hh := haT5 y hy
        rcases List.mem_cons.mp hp' with rfl | hp'
        · exact hh (dN, oD) (.tail _ (.head _))
        · rcases List.mem_cons.mp hp' with rfl | hp'
          · exact hh (L1 + 1, oCell) (.tail _ (.tail _ (.head _)))
          · rcases List.mem_cons.mp hp' with rfl | hp'
            · exact hh (P, oP3) (.tail _ (.tail _ (.tail _ (.head _))))
            · exact hh p' (.tail _ (.tail _ (.tail _ (.tail _ (List.mem_append_right _ hp')))))
      case pv => exact (pD.mono fun q hq => .tail _ (List.mem_append_right _ hq)).put (fz, sz) _ (hvT5.mono fun q hq => .tail _ (List.mem_append_left _ hq))
    case sub => exact sub_front4
    case off => (simp only [List.cons_append, List.append_assoc]); k_all
    case hk => kst_all
    case hr => walk_at "FSAME"
  case done =>
    rintro ⟨oD, oP, tl, D, Pt⟩ u h tk ⟨gD, pD, aD, lD, pP, kD⟩ F' N'
    dsimp only at N' gD pD aD lD pP kD F'
    have aT : Above ((P, o) :: rest) ((dN, oD) :: tl) := Above.cons ⟨xN2, l1N⟩ fun x hx p hp => by
      rcases List.mem_cons.mp hp with rfl | hp
      · exact aD x hx (P, oN) (.tail _ (.tail _ (.head _)))
      · exact aD x hx p (.tail _ (.tail _ (.tail _ hp)))
    have N1 : News gg L1 h ((L1 + 1, oCell) :: (P, oP) :: (((dN, oD) :: tl) ++ rest)) := newsSub N' fun p hp => by
      simp only [List.cons_append, List.mem_cons, List.mem_append] at hp ⊢
      rcases hp with h | h | h | h | h <;> simp [h]
    have gT : GObj Challenge.rw_pb0171_01.row.toRowW.prog w ((dN, oD) :: tl) oD D := gD.mono fun q hq => .tail _ hq
    have pT : PV ((dN, oD) :: tl) D Pt := pD.mono fun q hq => .tail _ hq
    have mT : (dN, oD) ∈ (dN, oD) :: tl := .head _
    have pP : Pen l (B + 40) oP := pP.mono (by omega)
    have lPt : Pt.length < 64 := by rw [← pT.length]; omega
    clear N' aD gD pD lD NN4 NN3 FN3 FN4 hrange upN rn rs hpN g0 dz1 NN FN
    generalize (dN, oD) :: tl = T at N1 gT pT mT aT
    k_steps
    rename_i hR0 tkR0 ra0 rb0 rc0 hrR0 FR0 NR0 upR0
    k_dflt (refine' src_growTS (σ := Obj) (fun c => (L1 + 1, oCell) :: (P, c) :: (T ++ rest)) (fun i ys c => Pen l (B + 40 + (i : Int)) c ∧ ∃ ns, IntsAre ys ns ∧ ns.Pairwise (· < ·) ∧ (∀ g ∈ ns, 0 ≤ g ∧ g < (i : Int)) ∧ ns.length ≤ i) oP (by assumption) (by assumption) (iters_range (n := 10) rfl (by assumption) (by decide) (by decide)) ?sz ?hS ?h0 ?turn ?fin)
    case sz => exact Nat.le_of_ble_eq_true rfl
    case hS => exact fun _ => trivial
    case h0 => exact ⟨by simpa using pP, [], .nil, .nil, by simp, Nat.le_refl _⟩
    case turn =>
      rintro i ys c v I oI C oC D' m₂ h tk E' hlt ⟨pc, ns, hns, hpw, hrg, hl⟩ ⟨ti, rfl⟩ hC hx F' N' off ne
      obtain ⟨⟨f1, f2, f3⟩, ⟨f4, f5, f6⟩, off⟩ := off
      k_steps
      · refine ⟨_, sub_refl, Pen.mono (by assumption) (by omega), ns ++ [0 + (i : Int)], intsSnoc hns, ?_, ?_, ?_⟩
        · exact List.pairwise_append.mpr ⟨hpw, List.pairwise_singleton _ _, fun a ha b hb => by simp at hb; subst hb; have := hrg a ha; omega⟩
        · intro g hg
          rcases List.mem_append.mp hg with hg | hg
          · have := hrg g hg; omega
          · simp at hg; omega
        · simp; omega
      · (try walk_at "CompEnd")
        exact ⟨_, sub_refl, Pen.mono (by assumption) (by omega), ns, hns, hpw, fun g hg => by have := hrg g hg; omega, by omega⟩
    case fin =>
      rintro g' ys c ⟨pc, ns, hns, hpw, hrg, hl⟩
      have hyl := hns.length
      k_steps
      rename_i Dl hF1 tkF1 FF1 NF1 oF1 DT2 hF2 FF2 NF2 w1 w2 w3 w4 hF3 FF3 NF3 hF4 tkF4 ra rb rc hr2 FF4 NF4 up4
      have Nx : News gg L1 hF4 ((L1 + 1, oCell) :: (P, c) :: (((DT2, ({ cls := .type "tuple", data := .seq ys.toArray } : Obj)) :: T) ++ rest)) := newsSub NF4 (by walk_at "SUBS")
      have aT2 : Above ((P, o) :: rest) ((DT2, ({ cls := .type "tuple", data := .seq ys.toArray } : Obj)) :: T) := Above.cons ⟨w3, allLt_right w4⟩ aT
      have mC : (DT2, ({ cls := .type "tuple", data := .seq ys.toArray } : Obj)) ∈ (DT2, ({ cls := .type "tuple", data := .seq ys.toArray } : Obj)) :: T := .head _
      replace gT := gT.mono (news' := (DT2, ({ cls := .type "tuple", data := .seq ys.toArray } : Obj)) :: T) fun q hq => .tail _ hq
      replace pT := pT.mono (news' := (DT2, ({ cls := .type "tuple", data := .seq ys.toArray } : Obj)) :: T) fun q hq => .tail _ hq
      replace mT : (dN, oD) ∈ (DT2, ({ cls := .type "tuple", data := .seq ys.toArray } : Obj)) :: T := .tail _ mT
      clear FF1 FF2 FF3 NF1 NF2 NF3 NF4 up4 aT w1 w2 w3 w4 oF1 hrR0 FR0 NR0 upR0 pP xN1
      generalize (DT2, ({ cls := .type "tuple", data := .seq ys.toArray } : Obj)) :: T = T1 at Nx aT2 mC gT pT mT
      k_dflt (refine' src_growTS (σ := Obj × Ledger) (fun c => (L1 + 1, oCell) :: (P, c.1) :: (c.2 ++ (T1 ++ rest))) (fun i ys c => Pen l (B + 50 + 2 * (i : Int)) c.1 ∧ Above ((L1 + 1, oCell) :: (P, o) :: (T1 ++ rest)) c.2 ∧ ∃ ks, Tups c.2 ys ks ∧ (∀ k ∈ ks, 0 ≤ k.1 ∧ k.1 < 10 ∧ 1 ≤ k.2 ∧ k.2 ≤ 2) ∧ ks.length ≤ i) (c, []) (by assumption) (by assumption) (iters_range (n := 10) rfl (by assumption) (by decide) (by decide)) ?sz ?hS ?h0 ?turn ?fin)
      case sz => exact Nat.le_of_ble_eq_true rfl
      case hS => exact fun _ => trivial
      case h0 => exact ⟨Pen.mono pc (by omega), Above.nil, [], .nil, by simp, Nat.le_refl _⟩
      case turn =>
        rintro i zs ⟨c2, tl2⟩ v I oI C oC D' m₂ h tk E' hlt ⟨pc2, ab2, ks, hks, hrk, hlk⟩ ⟨ti, rfl⟩ hC hx F' N' off ne
        dsimp only at N' off pc2 ab2 hks
        obtain ⟨⟨f1, f2, f3⟩, ⟨f4, f5, f6⟩, off⟩ := off
        k_steps
        · rename_i d1 tk1 oA hA tkA d10 d11 pA FA NA hd0 ceA d2 tk2 oB hB tkB d20 d21 pB FB NB DK hK FK NK k1 k2 k3 k4 k5 k6
          (try walk_at "CompEnd")
          refine' ⟨(oB, (DK, tup2 (0 + (i : Int), 1 + d2) _ _ 0) :: tl2), ?sub, pB.mono (by omega), Above.cons ⟨k4, k5, allLt_right k6⟩ ab2, ks ++ [(0 + (i : Int), 1 + d2)], tupsSnoc (hks.mono fun q hq => .tail _ hq) ⟨_, _, _, _, rfl, .head _⟩, ?rg, ?ln⟩
          case sub => walk_at "SUBS"
          case rg =>
            intro k hk
            rcases List.mem_append.mp hk with hk | hk
            · exact hrk k hk
            · simp only [List.mem_singleton] at hk
              subst hk
              dsimp only
              omega
          case ln => simp; omega
        · (try walk_at "CompEnd")
          exact ⟨(_, tl2), sub_refl, Pen.mono (by assumption) (by omega), ab2, ks, hks, hrk, by omega⟩
      case fin =>
        rintro g' zs ⟨c2, tl2⟩ ⟨pc2, ab2, ks, hks, hrk, hlk⟩
        dsimp only at pc2 ab2 hks
        have hzl := hks.length
        k_steps
        rename_i Dl2 hG1 tkG1 oG1 DF oF hG2 tkG2 loF gF w1 w2 w3 w4 hG3 FG3 NG3 hG4 tkG4 ra rb rc hr3 FG4 NG4 upG4
        have Nx : News gg L1 hG4 ((L1 + 1, oCell) :: (P, c2) :: (((DF, oF) :: T1) ++ rest)) := newsSub NG4 (by walk_at "SUBS")
        replace aT2 : Above ((P, o) :: rest) ((DF, oF) :: T1) := Above.cons ⟨w3, allLt_right (allLt_right w4)⟩ aT2
        have iF : IDict Challenge.rw_pb0171_01.row.toRowW.prog w ((DF, oF) :: T1) DF (putAll [] ks) := ⟨oF, .head _, gF, loF⟩
        replace mC : (DT2, ({ cls := .type "tuple", data := .seq ys.toArray } : Obj)) ∈ (DF, oF) :: T1 := .tail _ mC
        replace gT := gT.mono (news' := (DF, oF) :: T1) fun q hq => .tail _ hq
        replace pT := pT.mono (news' := (DF, oF) :: T1) fun q hq => .tail _ hq
        replace mT : (dN, oD) ∈ (DF, oF) :: T1 := .tail _ mT
        clear gF w1 w2 w3 w4 FG3 NG3 NG4 upG4 ab2 hks oG1 hr2 pc hzl
        generalize (DF, oF) :: T1 = T2 at Nx aT2 mC gT pT mT iF
        k_dflt (refine' src_growTS (σ := Obj × Ledger) (fun c => (L1 + 1, oCell) :: (P, c.1) :: (c.2 ++ (T2 ++ rest))) (fun i ys c => Pen l (B + 70 + (i : Int)) c.1 ∧ Above ((L1 + 1, oCell) :: (P, o) :: (T2 ++ rest)) c.2 ∧ ∃ ks, Tups c.2 ys ks ∧ (∀ k ∈ ks, 0 ≤ k.1 ∧ k.1 < 10 ∧ k.2 = 1) ∧ ks.length ≤ i) (c2, []) (by assumption) (by assumption) (iters_range (n := 10) rfl (by assumption) (by decide) (by decide)) ?sz ?hS ?h0 ?turn ?fin)
        case sz => exact Nat.le_of_ble_eq_true rfl
        case hS => exact fun _ => trivial
        case h0 => exact ⟨Pen.mono pc2 (by omega), Above.nil, [], .nil, by simp, Nat.le_refl _⟩
        case turn =>
          rintro i zs ⟨c3, tl2⟩ v I oI C oC D' m₂ h tk E' hlt ⟨pc3, ab2, ks, hks, hrk, hlk⟩ ⟨ti, rfl⟩ hC hx F' N' off ne
          dsimp only at N' off pc3 ab2 hks
          obtain ⟨⟨f1, f2, f3⟩, ⟨f4, f5, f6⟩, off⟩ := off
          k_steps
          · rename_i d1 tk1 oA hA tkA d10 d11 pA FA NA hd0 DK hK FK NK k1 k2 k3 k4 k5 k6
            (try walk_at "CompEnd")
            refine' ⟨(oA, (DK, tup2 (0 + (i : Int), 1) _ _ 0) :: tl2), ?sub, pA.mono (by omega), Above.cons ⟨k4, k5, allLt_right k6⟩ ab2, ks ++ [(0 + (i : Int), 1)], tupsSnoc (hks.mono fun q hq => .tail _ hq) ⟨_, _, _, _, rfl, .head _⟩, ?rg, ?ln⟩
            case sub => walk_at "SUBS"
            case rg =>
              intro k hk
              rcases List.mem_append.mp hk with hk | hk
              · exact hrk k hk
              · simp only [List.mem_singleton] at hk
                subst hk
                dsimp only
                omega
            case ln => simp; omega
          · (try walk_at "CompEnd")
            exact ⟨(_, tl2), sub_refl, Pen.mono (by assumption) (by omega), ab2, ks, hks, hrk, by omega⟩
        case fin =>
          rintro g' zs ⟨c3, tl2⟩ ⟨pc3, ab2, ks2, hks, hrk2, hlk2⟩
          dsimp only at pc3 ab2 hks
          have hzl := hks.length
          k_steps
          rename_i Dl3 hH1 tkH1 oH1 DS oS hH2 tkH2 loS gS w1 w2 w3 w4 hH3 FH3 NH3 hH4 tkH4 ra rb rc hr4 FH4 NH4 upH4
          have Nx : News gg L1 hH4 ((L1 + 1, oCell) :: (P, c3) :: (((DS, oS) :: T2) ++ rest)) := newsSub NH4 (by walk_at "SUBS")
          replace aT2 : Above ((P, o) :: rest) ((DS, oS) :: T2) := Above.cons ⟨w3, allLt_right (allLt_right w4)⟩ aT2
          have iS : IDict Challenge.rw_pb0171_01.row.toRowW.prog w ((DS, oS) :: T2) DS (putAll [] ks2) := ⟨oS, .head _, gS, loS⟩
          replace iF : IDict Challenge.rw_pb0171_01.row.toRowW.prog w ((DS, oS) :: T2) DF (putAll [] ks) := iF.mono fun q hq => .tail _ hq
          replace mC : (DT2, ({ cls := .type "tuple", data := .seq ys.toArray } : Obj)) ∈ (DS, oS) :: T2 := .tail _ mC
          replace gT := gT.mono (news' := (DS, oS) :: T2) fun q hq => .tail _ hq
          replace pT := pT.mono (news' := (DS, oS) :: T2) fun q hq => .tail _ hq
          replace mT : (dN, oD) ∈ (DS, oS) :: T2 := .tail _ mT
          clear gS w1 w2 w3 w4 FH3 NH3 NH4 upH4 ab2 hks oH1 hr3 pc2 hzl
          generalize (DS, oS) :: T2 = T3 at Nx aT2 mC gT pT mT iF iS
          k_dflt (refine' src_growSA (σ := Obj × Ledger) (fun c => (L1 + 1, oCell) :: (P, c.1) :: (c.2 ++ (T3 ++ rest))) (fun i ys c => Pen l (B + 80 + 4 * (i : Int)) c.1 ∧ Above ((L1 + 1, oCell) :: (P, o) :: (T3 ++ rest)) c.2 ∧ ∃ rows R, ys = rows.map (fun p => Value.ref p.1) ∧ RowL c.2 rows R ∧ (∀ row ∈ R, row.length = 2) ∧ R.length = i) (c3, []) (by assumption) (by assumption) (iters_range (n := 3) rfl (by assumption) (by decide) (by decide)) ?sz ?hS ?h0 ?turn ?fin)
          case sz => exact Nat.le_of_ble_eq_true rfl
          case hS => exact fun _ => trivial
          case h0 => exact ⟨Pen.mono pc3 (by omega), Above.nil, [], [], rfl, .nil, by simp, rfl⟩
          case turn =>
            rintro i zs ⟨c4, tl2⟩ v I oI C oC D' m₂ h tk E' hlt ⟨pc4, ab2, rows, R, rfl, hrw, hr2, hrn⟩ ⟨ti, rfl⟩ hC hx F' N' off ne
            dsimp only at N' off pc4 ab2 hrw
            obtain ⟨⟨f1, f2, f3⟩, ⟨f4, f5, f6⟩, off⟩ := off
            k_steps
            k_dflt (refine' src_growS (σ := Obj × Ledger) (fun c => (I, oI) :: (C, oC) :: (D', LCg.lst (rows.map fun p => Value.ref p.1)) :: (L1 + 1, oCell) :: (P, c.1) :: (c.2 ++ (tl2 ++ (T3 ++ rest)))) (fun j ys c => Pen l (B + 80 + 4 * (i : Int) + 2 * (j : Int)) c.1 ∧ Above ((I, oI) :: (C, oC) :: (D', oI) :: (L1 + 1, oCell) :: (P, o) :: (tl2 ++ (T3 ++ rest))) c.2 ∧ ∃ xs, PL c.2 ys xs ∧ xs.length = j) (c4, []) (by assumption) (by assumption) (iters_range (n := 2) rfl (by assumption) (by decide) (by decide)) ?sz2 ?hS2 ?h02 ?turn2 ?fin2)
            case sz2 => exact Nat.le_of_ble_eq_true rfl
            case hS2 => exact fun _ => trivial
            case h02 => exact ⟨Pen.mono pc4 (by omega), Above.nil, [], .nil, rfl⟩
            case turn2 =>
              rintro j us ⟨c5, tl3⟩ v J oJ C2 oC2 D2 m₃ h9 tk9 E9 hlt9 ⟨pc5, ab3, xs, hxs, hxn⟩ ⟨tj, rfl⟩ hC2 hx2 F' N' off2 ne2
              dsimp only at N' off2 pc5 ab3 hxs
              obtain ⟨⟨e1, e2, e3⟩, ⟨e4, e5, e6⟩, ⟨e7, e8, e9⟩, ⟨g1, g2, g3⟩, ⟨g4, g5, g6⟩, off2⟩ := off2
              k_steps
              rename_i p q oV hV tkV tlV pV aV FV NV yv y1 y2 yn ymv yv1 yv2 hvV
              (try walk_at "CompEnd")
              refine ⟨(oV, tlV ++ tl3), by walk_at "SUBS", pV.mono (by omega), Above.append (Above.addr aV ?_) ab3, xs ++ [(p, q)], PL.snoc (hxs.mono fun q hq => List.mem_append_right _ hq) (hvV.mono fun q hq => List.mem_append_left _ hq), by simp [hxn]⟩
              walk_at "SUBA"
            case fin2 =>
              rintro g2 us ⟨c5, tl3⟩ ⟨pc5, ab3, xs, hxs, hxn⟩
              dsimp only at pc5 ab3 hxs
              k_steps
              rename_i D6 h6 tk6 F6 N6 o6
              (try walk_at "CompEnd")
              refine ⟨(c5, (D6, LCg.lst us) :: (tl3 ++ tl2)), by walk_at "SUBS", pc5.mono (by omega), Above.consNe (ne_addr o6 ?_) (Above.append (Above.addr ab3 ?_) ab2), rows ++ [(D6, us)], R ++ [xs], by simp, RowL.snoc (hrw.mono fun q hq => .tail _ (List.mem_append_right _ hq)) (.head _) (hxs.mono fun q hq => .tail _ (List.mem_append_left _ hq)), ?_, by simp [hrn]⟩
              · walk_at "SUBA"
              · walk_at "SUBA"
              · intro row hrow
                rcases List.mem_append.mp hrow with h | h
                · exact hr2 row h
                · simp only [List.mem_singleton] at h; subst h; exact hxn
          case fin =>
            rintro g' zs ⟨c4, tl2⟩ ⟨pc4, ab2, rows, R, rfl, hrw, hr2, hrn⟩
            dsimp only at pc4 ab2 hrw
            clear pc3 hr4
            have abT : Above ((P, o) :: rest) tl2 := Above.addr ab2 (by walk_at "SUBA")
            have hrl := hrw.length
            have hfl := hrw.flat
            have hfl2 : R.flatten.length < 64 := by
              match R, hrn, hr2 with
              | [a, b, c], _, hr2 => simp [hr2 a (.head _), hr2 b (.tail _ (.head _)), hr2 c (.tail _ (.tail _ (.head _)))]
            have hfl3 := hfl.length
            have hD9 : D.length < 64 := by rw [pT.length]; exact lPt
            walk_at "FinA"
            rename_i Dr hR0 tkR0 FR0 NR0 oR0
            have Nx : News gg L1 hR0 ((L1 + 1, oCell) :: (P, c4) :: (((Dr, LCg.lst (rows.map fun p => Value.ref p.1)) :: (tl2 ++ T3)) ++ rest)) := newsSub NR0 (by walk_at "SUBS")
            have aT4 : Above ((P, o) :: rest) ((Dr, LCg.lst (rows.map fun p => Value.ref p.1)) :: (tl2 ++ T3)) := Above.consNe (ne_addr oR0 (by walk_at "SUBA")) (Above.append abT aT2)
            have mR : (Dr, LCg.lst (rows.map fun p => Value.ref p.1)) ∈ (Dr, LCg.lst (rows.map fun p => Value.ref p.1)) :: (tl2 ++ T3) := .head _
            have up4 : ∀ q ∈ T3, q ∈ (Dr, LCg.lst (rows.map fun p => Value.ref p.1)) :: (tl2 ++ T3) := fun q hq => .tail _ (List.mem_append_right _ hq)
            replace hrw := hrw.mono (news' := (Dr, LCg.lst (rows.map fun p => Value.ref p.1)) :: (tl2 ++ T3)) fun q hq => .tail _ (List.mem_append_left _ hq)
            replace iS := iS.mono up4
            replace iF := iF.mono up4
            replace mC := up4 _ mC
            replace gT := gT.mono up4
            replace pT := pT.mono up4
            replace mT := up4 _ mT
            clear NR0 oR0 ab2 abT aT2 hfl up4
            generalize (Dr, LCg.lst (rows.map fun p => Value.ref p.1)) :: (tl2 ++ T3) = T4 at Nx aT4 mR hrw iS iF mC gT pT mT
            k_with "call ref" => (k_here; (with_reducible show wpAny _ _ (call (Value.ref 169) [Value.ref _, Value.bool _]) _ _ _); k_dflt (refine' newg_call (small := T4) ?zcx ?zhG ?zsub ?zhm ?zg ?zp ?zlo ?zh64 ?_; (case zcx => walk_at "CX"); (case zhG => intro tl'; walk_at "MV"); (case zsub => walk_at "SUB"); (case zhm => assumption); (case zg => assumption); (case zp => assumption); (case zlo => assumption); (case zh64 => assumption); intros))
            k_with "call ref" => (k_here; (with_reducible show wpAny _ _ (call (Value.ref 111) [Value.ref _]) _ _ _); k_dflt (refine' newcov_call (small := T4) ?zcx ?zhG ?zsub ?zhm ?zhi ?_; (case zcx => walk_at "CX"); (case zhG => intro tl'; walk_at "MV"); (case zsub => walk_at "SUB"); (case zhm => assumption); (case zhi => assumption); intros))
            k_with "call ref" => (k_here; (with_reducible show wpAny _ _ (call (Value.ref 64) [Value.ref _]) _ _ _); k_dflt (refine' newcdef_call (small := T4) ?zcx ?zhG ?zsub ?zhd ?_; (case zcx => walk_at "CX"); (case zhG => intro tl'; walk_at "MV"); (case zsub => walk_at "SUB"); (case zhd => assumption); intros))
            k_with "call ref" => (k_here; (with_reducible show wpAny _ _ (call (Value.ref 201) [Value.ref _, Value.ref _, Value.ref _, Value.ref _, Value.bool _]) _ _ _); k_dflt (refine' newc_call (small := _ ++ (_ ++ (_ ++ T4))) ?zcx ?zhG ?zsub ?zm3 ?zm4 ?zm5 ?zm6 ?zm7 ?zhR ?_; (case zcx => walk_at "CX"); (case zhG => intro tl'; walk_at "MV"); (case zm3 => refine Cov.mono (by assumption) ?_; walk_at "SUBS"); (case zm4 => refine CDef.mono (by assumption) ?_; walk_at "SUBS"); (case zm5 => refine CDef.mono (by assumption) ?_; walk_at "SUBS"); (case zsub => walk_at "SUBS"); (case zm6 => k_mem); (case zm7 => refine RowL.mono (by assumption) ?_; walk_at "SUBS"); (case zhR => assumption); intros))
            k_steps
            rename_i d9 tt9 o9 h7 tk5 dz9 dz8 hp9 b9 h6 xG hG tkG tlG pgG abG xK hK tkK tlK cvK abK xF hF tkF tlF cdF abF xS hS tkS tlS cdS abS xC hC tkC tlC pcC abC Dl hD FD ND lt1 lt2 ltD kF kN kT kX
            refine' ret _ _ _ ((Dl, _) :: (tlC ++ (tlS ++ (tlF ++ (tlK ++ (tlG ++ T4)))))) xG xC _ Pt ns ks ks2 R b9 _ (.head _) (pgG.mono ?pg) (pcC.mono ?pc) kD lPt hpw ?hrg hl hrk hlk hrk2 hlk2 hrn hr2 (hp9.mono (by omega)) (by assumption) (newsSub kN ?nw) ?ab
            case pg => walk_at "SUBS"
            case pc => walk_at "SUBS"
            case hrg => exact fun g hg => by have := hrg g hg; omega
            case nw => walk_at "SUBS"
            case ab =>
              refine Above.cons ⟨lt2, AllLt.sub ltD (by walk_at "SUBS")⟩ (Above.append (Above.addr abC (by walk_at "SUBA")) (Above.append (Above.addr abS (by walk_at "SUBA")) (Above.append (Above.addr abF (by walk_at "SUBA")) (Above.append (Above.addr abK (by walk_at "SUBA")) (Above.append (Above.addr abG (by walk_at "SUBA")) aT4)))))
/-! P1 -/
/-! the plain law -/
theorem opt_ext {α : Type} {a b : Option α} (h : ∀ v, a = some v ↔ b = some v) : a = b := by
  cases a with
  | none => cases b with
    | none => rfl
    | some v => exact absurd ((h v).mpr rfl) (by simp)
  | some v => exact ((h v).mp rfl).symm
/-! int dicts -/
theorem get_put (M : List (Int × Int)) (k v z : Int) : get (put M k v) z = if z = k then some v else get M z := by
  have key : ∀ M : List (Int × Int), get (M.map fun p => if p.1 = k then (p.1, v) else p) z = if z = k then (get M k).map (fun _ => v) else get M z := by
    intro M
    induction M with
    | nil => simp [get]
    | cons p r ih =>
      simp only [List.map_cons, get]
      by_cases e : p.1 = k
      · simp only [e, if_true]
        by_cases ez : z = k
        · simp [ez]
        · have : ¬ k = z := fun h => ez h.symm
          simp only [this, if_false, ez, ih]
      · simp only [e, if_false]
        by_cases ep : p.1 = z
        · have : ¬ z = k := fun h => e (ep.trans h)
          simp [ep, this]
        · simp only [ep, if_false, ih]
  have app : ∀ M : List (Int × Int), get M k = none → get (M ++ [(k, v)]) z = if z = k then some v else get M z := by
    intro M hM
    induction M with
    | nil =>
      simp only [List.nil_append, get]
      by_cases e : z = k
      · simp [e]
      · have : ¬ k = z := fun h => e h.symm
        simp [e, this]
    | cons p r ih =>
      simp only [get] at hM
      by_cases e : p.1 = k
      · simp [e] at hM
      · simp only [e, if_false] at hM
        simp only [List.cons_append, get, ih hM]
        by_cases ep : p.1 = z
        · have : ¬ z = k := fun h => e (ep.trans h)
          simp [ep, this]
        · simp [ep]
  unfold put
  split
  · rename_i hs
    rw [key]
    obtain ⟨x, hx⟩ := Option.isSome_iff_exists.mp hs
    simp [hx]
  · rename_i hs
    exact app M (by cases hq : get M k <;> simp_all)
theorem get_mem {M : List (Int × Int)} {k v : Int} (h : get M k = some v) : (k, v) ∈ M := by
  induction M with
  | nil => simp [get] at h
  | cons p r ih =>
    simp only [get] at h
    by_cases e : p.1 = k
    · simp only [e, if_true, Option.some.injEq] at h
      rw [← e, ← h]; exact .head _
    · simp only [e, if_false] at h
      exact .tail _ (ih h)
theorem get_of_mem {M : List (Int × Int)} (hn : (M.map (·.1)).Nodup) {k v : Int} (h : (k, v) ∈ M) : get M k = some v := by
  induction M with
  | nil => simp at h
  | cons p r ih =>
    simp only [List.map_cons, List.nodup_cons] at hn
    simp only [get]
    rcases List.mem_cons.mp h with e | h
    · rw [← e]; simp
    · have : ¬ p.1 = k := fun e => hn.1 (e ▸ List.mem_map_of_mem (f := fun x : Int × Int => x.1) h)
      simp only [this, if_false]
      exact ih hn.2 h
theorem put_nodup {M : List (Int × Int)} (k v : Int) (h : (M.map (·.1)).Nodup) : ((put M k v).map (·.1)).Nodup := by
  unfold put
  split
  · rw [List.map_map]
    have e : M.map ((fun x => x.1) ∘ fun x => if x.1 = k then (x.1, v) else x) = M.map (·.1) := List.map_congr_left fun p _ => by simp only [Function.comp]; split <;> rfl
    rw [e]; exact h
  · rename_i hs
    rw [List.map_append, List.nodup_append]
    refine ⟨h, by simp, ?_⟩
    intro a ha b hb e
    simp at hb
    subst hb
    obtain ⟨p, hp, rfl⟩ := List.mem_map.mp ha
    apply hs
    rw [get_of_mem h (k := b) (v := p.2) (by rw [← e]; exact hp)]; rfl
theorem key_get {M : List (Int × Int)} {k : Int} : k ∈ M.map (·.1) ↔ ∃ v, get M k = some v :=
  ⟨get_of_key, fun ⟨v, h⟩ => List.mem_map_of_mem (f := fun x : Int × Int => x.1) (get_mem h)⟩
theorem keys_ext {M N : List (Int × Int)} (hm : (M.map (·.1)).Nodup) (hn : (N.map (·.1)).Nodup) (h : ∀ k, get M k = get N k) : srt (M.map (·.1)) = srt (N.map (·.1)) := by
  refine srt_eq ?_ (srt_sorted _)
  refine (srt_perm _).trans ?_
  refine (List.perm_ext_iff_of_nodup hm hn).mpr fun k => ?_
  rw [key_get, key_get, h k]
theorem ctD_ext {M N : List (Int × Int)} (hm : (M.map (·.1)).Nodup) (hn : (N.map (·.1)).Nodup) (h : ∀ k, get M k = get N k) : ctD M = ctD N := by
  unfold ctD
  rw [keys_ext hm hn h]
  congr 1
  exact List.map_congr_left fun k _ => by rw [h k]
noncomputable def Inj (T : List (Int × Int)) : Prop := ∀ a b y, get T a = some y → get T b = some y → a = b
theorem tcl_fold (M T : List (Int × Int)) (hT : Inj T) : ∀ (l : List Int) (acc : List (Int × Int)) (y : Int),
    (∀ k ∈ l, get T k = some y → get (l.foldl (tclStep M T) acc) y = some ((get M k).getD 0)) ∧ ((∀ k ∈ l, get T k ≠ some y) → get (l.foldl (tclStep M T) acc) y = get acc y)
  | [], acc, y => ⟨fun k hk => by simp at hk, fun _ => rfl⟩
  | x :: r, acc, y => by
    have ih := tcl_fold M T hT r (tclStep M T acc x) y
    refine ⟨fun k hk hy => ?_, fun hn => ?_⟩
    · by_cases hr : k ∈ r
      · exact ih.1 k hr hy
      · have hx : k = x := by rcases List.mem_cons.mp hk with h | h; exact h; exact absurd h hr
        subst hx
        rw [List.foldl_cons, ih.2 (fun k2 h2 e => hr (by rw [hT k k2 y hy e]; exact h2))]
        unfold tclStep
        rw [hy]
        dsimp only
        rw [get_put, if_pos rfl]
    · rw [List.foldl_cons, ih.2 (fun k2 h2 => hn k2 (.tail _ h2))]
      unfold tclStep
      cases hg : get T x with
      | none => rfl
      | some z =>
        dsimp only
        rw [get_put, if_neg]
        intro e
        exact hn x (.head _) (by rw [hg, e])
theorem tcl_get {M T : List (Int × Int)} (hT : Inj T) (y x : Int) : get (tcl M T) y = some x ↔ ∃ k, get M k = some x ∧ get T k = some y := by
  have hf := tcl_fold M T hT (srt (M.map (·.1))) [] y
  have hmem : ∀ k, k ∈ srt (M.map (·.1)) ↔ ∃ v, get M k = some v := fun k => by rw [(srt_perm _).mem_iff, key_get]
  unfold tcl
  constructor
  · intro h
    by_cases he : ∃ k ∈ srt (M.map (·.1)), get T k = some y
    · obtain ⟨k, hk, hy⟩ := he
      obtain ⟨v, hv⟩ := (hmem k).mp hk
      rw [hf.1 k hk hy, hv] at h
      exact ⟨k, by rw [hv]; exact h, hy⟩
    · rw [hf.2 (fun k hk e => he ⟨k, hk, e⟩)] at h
      cases h
  · rintro ⟨k, hk, hy⟩
    rw [hf.1 k ((hmem k).mpr ⟨x, hk⟩) hy, hk]; rfl
theorem tcl_nodup (M T : List (Int × Int)) : ((tcl M T).map (·.1)).Nodup := by
  unfold tcl
  generalize srt (M.map (·.1)) = l
  have : ∀ (l : List Int) (acc : List (Int × Int)), (acc.map (·.1)).Nodup → ((l.foldl (tclStep M T) acc).map (·.1)).Nodup := by
    intro l
    induction l with
    | nil => exact fun _ h => h
    | cons x r ih =>
      intro acc h
      refine ih _ ?_
      unfold tclStep
      split
      · exact put_nodup _ _ h
      · exact h
  exact this l [] .nil
theorem tcl_length (M T : List (Int × Int)) : (tcl M T).length ≤ M.length := by
  have : ∀ (l : List Int) (acc : List (Int × Int)), (l.foldl (tclStep M T) acc).length ≤ acc.length + l.length := by
    intro l
    induction l with
    | nil => intro acc; simp
    | cons x r ih =>
      intro acc
      have h := ih (tclStep M T acc x)
      have h2 : (tclStep M T acc x).length ≤ acc.length + 1 := by
        unfold tclStep
        split
        · exact put_length _ _ _
        · omega
      simp only [List.foldl_cons, List.length_cons]
      omega
  have h := this (srt (M.map (·.1))) []
  rw [srt_length] at h
  unfold tcl
  simpa using h
/-! coverage -/
theorem addk_mem (ks : List Int) (k z : Int) : z ∈ addk ks k ↔ z ∈ ks ∨ z = k := by
  unfold addk
  split
  · rename_i h
    exact ⟨.inl, fun e => e.elim id fun e => e ▸ h⟩
  · simp
theorem addk_nodup {ks : List Int} (k : Int) (h : ks.Nodup) : (addk ks k).Nodup := by
  unfold addk
  split
  · exact h
  · rename_i hk
    rw [List.nodup_append]
    refine ⟨h, by simp, fun a ha b hb e => ?_⟩
    simp at hb
    subst hb
    exact hk (e ▸ ha)
theorem addk_fold : ∀ (l acc : List Int), (∀ z, z ∈ l.foldl addk acc ↔ z ∈ acc ∨ z ∈ l) ∧ (acc.Nodup → (l.foldl addk acc).Nodup)
  | [], acc => ⟨fun z => by simp, id⟩
  | x :: r, acc => by
    have ih := addk_fold r (addk acc x)
    refine ⟨fun z => ?_, fun h => ih.2 (addk_nodup x h)⟩
    rw [List.foldl_cons, ih.1 z, addk_mem]
    simp only [List.mem_cons, or_assoc]
theorem tcov_mem {ns : List Int} {T : List (Int × Int)} (y : Int) : y ∈ tcov ns T ↔ ∃ k ∈ ns, get T k = some y := by
  unfold tcov
  rw [(srt_perm _).mem_iff, (addk_fold _ []).1]
  simp [List.mem_filterMap]
theorem srt_strict {l : List Int} (h : l.Nodup) : (srt l).Pairwise (· < ·) := by
  have h1 := srt_sorted l
  have h2 : (srt l).Nodup := (srt_perm l).nodup_iff.mpr h
  exact (h1.and h2).imp fun ⟨a, b⟩ => by omega
theorem tcov_strict (ns : List Int) (T : List (Int × Int)) : (tcov ns T).Pairwise (· < ·) := srt_strict ((addk_fold _ []).2 .nil)
theorem strict_ext {l m : List Int} (hl : l.Pairwise (· < ·)) (hm : m.Pairwise (· < ·)) (h : ∀ z, z ∈ l ↔ z ∈ m) : l = m := by
  have nl : l.Nodup := hl.imp fun h => by omega
  have nm : m.Nodup := hm.imp fun h => by omega
  have p := (List.perm_ext_iff_of_nodup nl nm).mpr h
  exact (srt_eq (l := m) (m := l) p (hl.imp fun h => by omega)).trans (srt_eq (l := m) (m := m) (.refl _) (hm.imp fun h => by omega)).symm
theorem tcov_length (ns : List Int) (T : List (Int × Int)) : (tcov ns T).length ≤ ns.length := by
  unfold tcov
  rw [srt_length]
  have h := addk_len (ns.filterMap (get T)) []
  have h2 := List.length_filterMap_le (get T) ns
  simp at h
  omega
/-! P2 -/
/-! tables of pairs of glyphs -/
theorem pget_put (M : PT) (k v z : Int × Int) : pget (pput M k v) z = if z = k then some v else pget M z := by
  have key : ∀ M : PT, pget (M.map fun p => if p.1 = k then (p.1, v) else p) z = if z = k then (pget M k).map (fun _ => v) else pget M z := by
    intro M
    induction M with
    | nil => simp [pget]
    | cons p r ih =>
      simp only [List.map_cons, pget]
      by_cases e : p.1 = k
      · simp only [e, if_true]
        by_cases ez : z = k
        · simp [ez]
        · have : ¬ k = z := fun h => ez h.symm
          simp only [this, if_false, ez, ih]
      · simp only [e, if_false]
        by_cases ep : p.1 = z
        · have : ¬ z = k := fun h => e (ep.trans h)
          simp [ep, this]
        · simp only [ep, if_false, ih]
  have app : ∀ M : PT, pget M k = none → pget (M ++ [(k, v)]) z = if z = k then some v else pget M z := by
    intro M hM
    induction M with
    | nil =>
      simp only [List.nil_append, pget]
      by_cases e : z = k
      · simp [e]
      · have : ¬ k = z := fun h => e h.symm
        simp [e, this]
    | cons p r ih =>
      simp only [pget] at hM
      by_cases e : p.1 = k
      · simp [e] at hM
      · simp only [e, if_false] at hM
        simp only [List.cons_append, pget, ih hM]
        by_cases ep : p.1 = z
        · have : ¬ z = k := fun h => e (ep.trans h)
          simp [ep, this]
        · simp [ep]
  unfold pput
  split
  · rename_i hs
    rw [key]
    obtain ⟨x, hx⟩ := Option.isSome_iff_exists.mp hs
    simp [hx]
  · rename_i hs
    exact app M (by cases hq : pget M k <;> simp_all)
theorem pget_mem {M : PT} {k v : Int × Int} (h : pget M k = some v) : (k, v) ∈ M := by
  induction M with
  | nil => simp [pget] at h
  | cons p r ih =>
    simp only [pget] at h
    by_cases e : p.1 = k
    · simp only [e, if_true, Option.some.injEq] at h
      rw [← e, ← h]; exact .head _
    · simp only [e, if_false] at h
      exact .tail _ (ih h)
theorem pget_of_mem {M : PT} (hn : (M.map (·.1)).Nodup) {k v : Int × Int} (h : (k, v) ∈ M) : pget M k = some v := by
  induction M with
  | nil => simp at h
  | cons p r ih =>
    simp only [List.map_cons, List.nodup_cons] at hn
    simp only [pget]
    rcases List.mem_cons.mp h with e | h
    · rw [← e]; simp
    · have : ¬ p.1 = k := fun e => hn.1 (e ▸ List.mem_map_of_mem (f := fun x : (Int × Int) × (Int × Int) => x.1) h)
      simp only [this, if_false]
      exact ih hn.2 h
theorem pput_nd {M : PT} (k v : Int × Int) (h : (M.map (·.1)).Nodup) : ((pput M k v).map (·.1)).Nodup := by
  unfold pput
  split
  · rw [List.map_map]
    have e : M.map ((fun x => x.1) ∘ fun x => if x.1 = k then (x.1, v) else x) = M.map (·.1) := List.map_congr_left fun p _ => by simp only [Function.comp]; split <;> rfl
    rw [e]; exact h
  · rename_i hs
    rw [List.map_append, List.nodup_append]
    refine ⟨h, by simp, ?_⟩
    intro a ha b hb e
    simp at hb
    subst hb
    obtain ⟨p, hp, rfl⟩ := List.mem_map.mp ha
    apply hs
    rw [pget_of_mem h (k := b) (v := p.2) (by rw [← e]; exact hp)]; rfl
theorem pget_of_key {M : PT} {k : Int × Int} (h : k ∈ M.map (·.1)) : ∃ x, pget M k = some x := by
  induction M with
  | nil => simp at h
  | cons p r ih =>
    simp only [pget]
    by_cases e : p.1 = k
    · exact ⟨_, if_pos e⟩
    · rw [if_neg e]
      refine ih ?_
      rcases List.mem_cons.mp h with h | h
      · exact absurd h.symm e
      · exact h
theorem pkey_get {M : PT} {k : Int × Int} : k ∈ M.map (·.1) ↔ ∃ v, pget M k = some v :=
  ⟨pget_of_key, fun ⟨v, h⟩ => List.mem_map_of_mem (f := fun x : (Int × Int) × (Int × Int) => x.1) (pget_mem h)⟩
theorem sortk_perm {l : List (Int × Int)} (h : ∀ k ∈ l, Small k) : (sortk l).Perm l := by
  unfold sortk
  have p := (srt_perm (l.map code)).map (fun c => (c / 1000, c % 1000))
  refine p.trans ?_
  rw [List.map_map]
  have : l.map ((fun c : Int => (c / 1000, c % 1000)) ∘ code) = l := by
    conv => rhs; rw [← List.map_id l]
    refine List.map_congr_left fun k hk => ?_
    obtain ⟨a, b⟩ := k
    obtain ⟨h1, h2, h3, h4⟩ := h _ hk
    simp only [Function.comp, code, Prod.mk.injEq, id]
    simp only at h1 h2 h3 h4
    omega
  rw [this]
theorem sortk_ext {l m : List (Int × Int)} (p : l.Perm m) : sortk l = sortk m := by
  unfold sortk
  rw [srt_eq ((srt_perm (l.map code)).trans (p.map code)) (srt_sorted _)]
theorem toldG_ext {P P' : PT} {b b' : Bool} (hp : (P.map (·.1)).Nodup) (hp' : (P'.map (·.1)).Nodup) (h : ∀ k, pget P k = pget P' k) (hb : b = b') : toldG P b = toldG P' b' := by
  subst hb
  unfold toldG
  have e : sortk (P.map (·.1)) = sortk (P'.map (·.1)) := sortk_ext ((List.perm_ext_iff_of_nodup hp hp').mpr fun k => by rw [pkey_get, pkey_get, h k])
  have e2 : (sortk (P'.map (·.1))).map (rowD P) = (sortk (P'.map (·.1))).map (rowD P') := List.map_congr_left fun k _ => by unfold rowD; rw [h k]
  rw [e, e2]
theorem trow_some {k z : Int × Int} {T : List (Int × Int)} : trow k T = some z ↔ get T k.1 = some z.1 ∧ get T k.2 = some z.2 := by
  unfold trow
  cases h1 : get T k.1 with
  | none => simp
  | some a => cases h2 : get T k.2 with
    | none => simp
    | some b => simp [Prod.ext_iff]
theorem trow_inj {k k2 z : Int × Int} {T : List (Int × Int)} (hT : Inj T) (h : trow k T = some z) (h2 : trow k2 T = some z) : k = k2 := by
  rw [trow_some] at h h2
  exact Prod.ext (hT _ _ _ h.1 h2.1) (hT _ _ _ h.2 h2.2)
theorem cut_fold (P : PT) (T : List (Int × Int)) (hT : Inj T) : ∀ (l : List (Int × Int)) (acc : PT) (z : Int × Int),
    (∀ k ∈ l, trow k T = some z → pget (l.foldl (cutStep P T) acc) z = some ((pget P k).getD (0, 0))) ∧ ((∀ k ∈ l, trow k T ≠ some z) → pget (l.foldl (cutStep P T) acc) z = pget acc z)
  | [], acc, z => ⟨fun k hk => by simp at hk, fun _ => rfl⟩
  | x :: r, acc, z => by
    have ih := cut_fold P T hT r (cutStep P T acc x) z
    refine ⟨fun k hk hy => ?_, fun hn => ?_⟩
    · by_cases hr : k ∈ r
      · exact ih.1 k hr hy
      · have hx : k = x := by rcases List.mem_cons.mp hk with h | h; exact h; exact absurd h hr
        subst hx
        rw [List.foldl_cons, ih.2 (fun k2 h2 e => hr (by rw [trow_inj hT hy e]; exact h2))]
        unfold cutStep
        rw [hy]
        dsimp only
        rw [pget_put, if_pos rfl]
    · rw [List.foldl_cons, ih.2 (fun k2 h2 => hn k2 (.tail _ h2))]
      unfold cutStep
      cases hg : trow x T with
      | none => rfl
      | some y =>
        dsimp only
        rw [pget_put, if_neg]
        intro e
        exact hn x (.head _) (by rw [hg, e])
noncomputable def SmallP (P : PT) : Prop := ∀ p ∈ P, Small p.1
theorem SmallP.keys {P : PT} (h : SmallP P) : ∀ k ∈ P.map (·.1), Small k := fun k hk => by
  obtain ⟨p, hp, rfl⟩ := List.mem_map.mp hk
  exact h p hp
theorem cut_get {P : PT} {T : List (Int × Int)} (hT : Inj T) (hs : SmallP P) (z v : Int × Int) : pget (cutG P T) z = some v ↔ ∃ k, pget P k = some v ∧ trow k T = some z := by
  have hf := cut_fold P T hT (sortk (P.map (·.1))) [] z
  have hmem : ∀ k, k ∈ sortk (P.map (·.1)) ↔ ∃ v, pget P k = some v := fun k => by rw [(sortk_perm hs.keys).mem_iff, pkey_get]
  unfold cutG
  constructor
  · intro h
    by_cases he : ∃ k ∈ sortk (P.map (·.1)), trow k T = some z
    · obtain ⟨k, hk, hy⟩ := he
      obtain ⟨v', hv⟩ := (hmem k).mp hk
      rw [hf.1 k hk hy, hv] at h
      exact ⟨k, by rw [hv]; exact h, hy⟩
    · rw [hf.2 (fun k hk e => he ⟨k, hk, e⟩)] at h
      cases h
  · rintro ⟨k, hk, hy⟩
    rw [hf.1 k ((hmem k).mpr ⟨v, hk⟩) hy, hk]; rfl
theorem cut_nodup (P : PT) (T : List (Int × Int)) : ((cutG P T).map (·.1)).Nodup := by
  unfold cutG
  have : ∀ (l : List (Int × Int)) (acc : PT), (acc.map (·.1)).Nodup → ((l.foldl (cutStep P T) acc).map (·.1)).Nodup := by
    intro l
    induction l with
    | nil => exact fun _ h => h
    | cons x r ih =>
      intro acc h
      refine ih _ ?_
      unfold cutStep
      split
      · exact pput_nd _ _ h
      · exact h
  exact this _ [] .nil
theorem cut_length (P : PT) (T : List (Int × Int)) : (cutG P T).length ≤ P.length := by
  have : ∀ (l : List (Int × Int)) (acc : PT), (l.foldl (cutStep P T) acc).length ≤ acc.length + l.length := by
    intro l
    induction l with
    | nil => intro acc; simp
    | cons x r ih =>
      intro acc
      have h := ih (cutStep P T acc x)
      have h2 : (cutStep P T acc x).length ≤ acc.length + 1 := by
        unfold cutStep
        split
        · unfold pput; split <;> simp
        · omega
      simp only [List.foldl_cons, List.length_cons]
      omega
  have h := this (sortk (P.map (·.1))) []
  have e : (sortk (P.map (·.1))).length = P.length := by unfold sortk; rw [List.length_map, srt_length]; simp
  rw [e] at h
  simpa [cutG] using h
noncomputable def Vals (T : List (Int × Int)) (lo hi : Int) : Prop := ∀ k y, get T k = some y → lo ≤ y ∧ y < hi
theorem cut_small {P : PT} {T : List (Int × Int)} {lo hi : Int} (hT : Inj T) (hs : SmallP P) (hv : Vals T lo hi) (h0 : 0 ≤ lo) (h1 : hi ≤ 1000) : SmallP (cutG P T) := by
  intro p hp
  obtain ⟨k, _, hk⟩ := (cut_get hT hs p.1 p.2).mp (pget_of_mem (cut_nodup P T) hp)
  rw [trow_some] at hk
  have a := hv _ _ hk.1
  have b := hv _ _ hk.2
  exact ⟨by omega, by omega, by omega, by omega⟩
noncomputable def Comp (W T U : List (Int × Int)) : Prop := ∀ k, get W k = (get T k).bind (get U)
theorem Comp.inj {W T U : List (Int × Int)} (h : Comp W T U) (hT : Inj T) (hU : Inj U) : Inj W := by
  intro a b y ha hb
  rw [h, Option.bind_eq_some_iff] at ha hb
  obtain ⟨x, h1, h2⟩ := ha
  obtain ⟨x', h3, h4⟩ := hb
  have := hU _ _ _ h2 h4
  subst this
  exact hT _ _ _ h1 h3
theorem Comp.row {W T U : List (Int × Int)} (h : Comp W T U) (k z : Int × Int) : trow k W = some z ↔ ∃ k', trow k T = some k' ∧ trow k' U = some z := by
  have h' : ∀ k, get W k = (get T k).bind (get U) := h
  simp only [trow_some, h', Option.bind_eq_some_iff]
  constructor
  · rintro ⟨⟨a, h1, h2⟩, ⟨b, h3, h4⟩⟩
    exact ⟨(a, b), ⟨h1, h3⟩, h2, h4⟩
  · rintro ⟨k', ⟨h1, h3⟩, h2, h4⟩
    exact ⟨⟨_, h1, h2⟩, ⟨_, h3, h4⟩⟩
theorem cut_comp {P : PT} {T U W : List (Int × Int)} {lo hi : Int} {b b' : Bool} (hT : Inj T) (hU : Inj U) (hW : Comp W T U) (hs : SmallP P) (hv : Vals T lo hi) (h0 : 0 ≤ lo) (h1 : hi ≤ 1000) (hb : b = b') : toldG (cutG (cutG P T) U) b = toldG (cutG P W) b' := by
  refine toldG_ext (cut_nodup _ _) (cut_nodup _ _) (fun z => opt_ext fun v => ?_) hb
  rw [cut_get hU (cut_small hT hs hv h0 h1), cut_get (hW.inj hT hU) hs]
  constructor
  · rintro ⟨k', h1, h2⟩
    obtain ⟨k, h3, h4⟩ := (cut_get hT hs _ _).mp h1
    exact ⟨k, h3, (hW.row k z).mpr ⟨k', h4, h2⟩⟩
  · rintro ⟨k, h3, h4⟩
    obtain ⟨k', h5, h6⟩ := (hW.row k z).mp h4
    exact ⟨k', (cut_get hT hs _ _).mpr ⟨k, h3, h5⟩, h6⟩
theorem moves_cut {P : PT} {T : List (Int × Int)} (hT : Inj T) (hs : SmallP P) (h : moves (cutG P T) = true) : moves P = true := by
  unfold moves at h ⊢
  rw [List.any_eq_true] at h ⊢
  obtain ⟨p, hp, e⟩ := h
  obtain ⟨k, hk, _⟩ := (cut_get hT hs p.1 p.2).mp (pget_of_mem (cut_nodup P T) hp)
  exact ⟨(k, p.2), pget_mem hk, e⟩
theorem cut_second {P : PT} {T : List (Int × Int)} {b : Bool} (hT : Inj T) (hs : SmallP P) : ((b || moves P) || moves (cutG P T)) = (b || moves P) := by
  cases h : moves (cutG P T) with
  | false => simp
  | true => simp [moves_cut hT hs h]
theorem cut_find {P : PT} {T : List (Int × Int)} {a c y1 y2 : Int} (hT : Inj T) (hs : SmallP P) (h1 : get T a = some y1) (h2 : get T c = some y2) : pget (cutG P T) (y1, y2) = pget P (a, c) := by
  refine opt_ext fun v => ?_
  rw [cut_get hT hs]
  have hr : trow (a, c) T = some (y1, y2) := trow_some.mpr ⟨h1, h2⟩
  constructor
  · rintro ⟨k, hk, ht⟩
    rw [← trow_inj hT ht hr]; exact hk
  · exact fun h => ⟨_, h, hr⟩
theorem cut_none {P : PT} {T : List (Int × Int)} {lo hi g c : Int} (hT : Inj T) (hs : SmallP P) (hv : Vals T lo hi) (hg : g < lo) : pget (cutG P T) (g, c) = none := by
  cases h : pget (cutG P T) (g, c) with
  | none => rfl
  | some v =>
    obtain ⟨k, _, hk⟩ := (cut_get hT hs _ _).mp h
    rw [trow_some] at hk
    have := hv _ _ hk.1
    simp only at this
    omega
theorem cut_id {P : PT} {I : List (Int × Int)} {b b' : Bool} (hI : ∀ k y, get I k = some y ↔ (0 ≤ k ∧ k < 10) ∧ y = k) (hk : ∀ p ∈ P, 0 ≤ p.1.1 ∧ p.1.1 < 10 ∧ 0 ≤ p.1.2 ∧ p.1.2 < 10) (hn : (P.map (·.1)).Nodup) (hb : b = b') : toldG (cutG P I) b = toldG P b' := by
  have hs : SmallP P := fun p hp => by have := hk p hp; exact ⟨by omega, by omega, by omega, by omega⟩
  have hT : Inj I := fun a c y h1 h2 => by rw [hI] at h1 h2; omega
  refine toldG_ext (cut_nodup _ _) hn (fun z => opt_ext fun v => ?_) hb
  rw [cut_get hT hs]
  constructor
  · rintro ⟨k, h1, h2⟩
    rw [trow_some, hI, hI] at h2
    have : z = k := Prod.ext h2.1.2 h2.2.2
    rw [this]; exact h1
  · intro h
    refine ⟨z, h, ?_⟩
    have := hk _ (pget_mem h)
    simp only at this
    rw [trow_some, hI, hI]
    exact ⟨⟨⟨this.1, this.2.1⟩, rfl⟩, ⟨this.2.2.1, this.2.2.2⟩, rfl⟩
theorem cut_empty {P : PT} (hs : SmallP P) (z : Int × Int) : pget (cutG P []) z = none := by
  cases h : pget (cutG P []) z with
  | none => rfl
  | some v =>
    obtain ⟨k, _, hk⟩ := (cut_get (T := []) (fun a b y h => by cases h) hs _ _).mp h
    rw [trow_some] at hk
    cases hk.1
/-! tables of pairs of classes -/
theorem tcl_comp {M T U W : List (Int × Int)} (hT : Inj T) (hU : Inj U) (hW : Comp W T U) : ctD (tcl (tcl M T) U) = ctD (tcl M W) := by
  refine ctD_ext (tcl_nodup _ _) (tcl_nodup _ _) fun z => opt_ext fun v => ?_
  rw [tcl_get hU, tcl_get (hW.inj hT hU)]
  constructor
  · rintro ⟨k', h1, h2⟩
    obtain ⟨k, h3, h4⟩ := (tcl_get hT _ _).mp h1
    exact ⟨k, h3, by rw [hW, h4]; exact h2⟩
  · rintro ⟨k, h3, h4⟩
    rw [hW, Option.bind_eq_some_iff] at h4
    obtain ⟨k', h5, h6⟩ := h4
    exact ⟨k', (tcl_get hT _ _).mpr ⟨k, h3, h5⟩, h6⟩
theorem tcov_comp {ns : List Int} {T U W : List (Int × Int)} (hW : Comp W T U) : tcov (tcov ns T) U = tcov ns W := by
  refine strict_ext (tcov_strict _ _) (tcov_strict _ _) fun z => ?_
  rw [tcov_mem, tcov_mem]
  constructor
  · rintro ⟨k', h1, h2⟩
    obtain ⟨k, h3, h4⟩ := (tcov_mem _).mp h1
    exact ⟨k, h3, by rw [hW, h4]; exact h2⟩
  · rintro ⟨k, h3, h4⟩
    rw [hW, Option.bind_eq_some_iff] at h4
    obtain ⟨k', h5, h6⟩ := h4
    exact ⟨k', (tcov_mem _).mpr ⟨k, h3, h5⟩, h6⟩
theorem cutC_comp {ns : List Int} {F S T U W : List (Int × Int)} {R : List (List (Int × Int))} {b b' : Bool} (hT : Inj T) (hU : Inj U) (hW : Comp W T U) (hb : b = b') :
    toldC (tcov (tcov ns T) U) (tcl (tcl F T) U) (tcl (tcl S T) U) R b = toldC (tcov ns W) (tcl F W) (tcl S W) R b' := by
  unfold toldC
  rw [tcov_comp hW, tcl_comp hT hU hW, tcl_comp hT hU hW, hb]
theorem tcl_at {M T : List (Int × Int)} {a y : Int} (hT : Inj T) (h : get T a = some y) : get (tcl M T) y = get M a := by
  refine opt_ext fun v => ?_
  rw [tcl_get hT]
  constructor
  · rintro ⟨k, h1, h2⟩
    rw [← hT _ _ _ h2 h]; exact h1
  · exact fun h1 => ⟨a, h1, h⟩
theorem cutC_find {ns : List Int} {F S T : List (Int × Int)} {R : List (List (Int × Int))} {a c y1 y2 : Int} (hT : Inj T) (h1 : get T a = some y1) (h2 : get T c = some y2) : findC (tcov ns T) (tcl F T) (tcl S T) R y1 y2 = findC ns F S R a c := by
  unfold findC
  rw [tcl_at hT h1, tcl_at hT h2]
  have : y1 ∈ tcov ns T ↔ a ∈ ns := by
    rw [tcov_mem]
    exact ⟨fun ⟨k, hk, e⟩ => by rw [← hT _ _ _ e h1]; exact hk, fun h => ⟨a, h, h1⟩⟩
  by_cases h : a ∈ ns
  · rw [if_pos h, if_pos (this.mpr h)]
  · rw [if_neg h, if_neg (fun e => h (this.mp e))]
theorem cutC_none {ns : List Int} {F S T : List (Int × Int)} {R : List (List (Int × Int))} {lo hi g c : Int} (hv : Vals T lo hi) (hg : g < lo) : findC (tcov ns T) F S R g c = none := by
  unfold findC
  refine if_neg fun h => ?_
  obtain ⟨k, _, e⟩ := (tcov_mem _).mp h
  have := hv _ _ e
  omega
theorem cutC_empty {ns : List Int} {F S : List (Int × Int)} {R : List (List (Int × Int))} {g c : Int} : findC (tcov ns []) F S R g c = none := by
  unfold findC
  refine if_neg fun h => ?_
  obtain ⟨k, _, e⟩ := (tcov_mem _).mp h
  cases e
theorem tcl_id {M I : List (Int × Int)} (hI : ∀ k y, get I k = some y ↔ (0 ≤ k ∧ k < 10) ∧ y = k) (hk : ∀ k v, get M k = some v → 0 ≤ k ∧ k < 10) (hn : (M.map (·.1)).Nodup) : ctD (tcl M I) = ctD M := by
  have hT : Inj I := fun a c y h1 h2 => by rw [hI] at h1 h2; omega
  refine ctD_ext (tcl_nodup _ _) hn fun z => opt_ext fun v => ?_
  rw [tcl_get hT]
  constructor
  · rintro ⟨k, h1, h2⟩
    rw [hI] at h2
    rw [h2.2]; exact h1
  · exact fun h => ⟨z, h, (hI _ _).mpr ⟨hk _ _ h, rfl⟩⟩
theorem cutC_id {ns : List Int} {F S I : List (Int × Int)} {R : List (List (Int × Int))} {b b' : Bool} (hI : ∀ k y, get I k = some y ↔ (0 ≤ k ∧ k < 10) ∧ y = k) (hns : ns.Pairwise (· < ·)) (hr : ∀ g ∈ ns, 0 ≤ g ∧ g < 10)
    (hF : ∀ k v, get F k = some v → 0 ≤ k ∧ k < 10) (nF : (F.map (·.1)).Nodup) (hS : ∀ k v, get S k = some v → 0 ≤ k ∧ k < 10) (nS : (S.map (·.1)).Nodup) (hb : b = b') : toldC (tcov ns I) (tcl F I) (tcl S I) R b = toldC ns F S R b' := by
  have e : tcov ns I = ns := strict_ext (tcov_strict _ _) hns fun z => by
    rw [tcov_mem]
    constructor
    · rintro ⟨k, h1, h2⟩
      rw [hI] at h2
      rw [h2.2]; exact h1
    · exact fun h => ⟨z, h, (hI _ _).mpr ⟨hr _ h, rfl⟩⟩
  unfold toldC
  rw [e, tcl_id hI hF nF, tcl_id hI hS nS, hb]
/-! dicts from a list of pairs -/
theorem putAll_out : ∀ (ks M : List (Int × Int)) (z : Int), z ∉ ks.map (·.1) → get (putAll M ks) z = get M z
  | [], _, _, _ => rfl
  | k :: r, M, z, h => by
    simp only [List.map_cons, List.mem_cons, not_or] at h
    show get (putAll (put M k.1 k.2) r) z = _
    rw [putAll_out r _ z h.2, get_put, if_neg h.1]
theorem putAll_in : ∀ (ks M : List (Int × Int)) (z v : Int), (ks.map (·.1)).Nodup → (z, v) ∈ ks → get (putAll M ks) z = some v
  | [], _, _, _, _, h => by simp at h
  | k :: r, M, z, v, hn, h => by
    simp only [List.map_cons, List.nodup_cons] at hn
    show get (putAll (put M k.1 k.2) r) z = _
    rcases List.mem_cons.mp h with e | h
    · subst e
      rw [putAll_out r _ z hn.1, get_put, if_pos rfl]
    · exact putAll_in r _ z v hn.2 h
theorem putAll_sub : ∀ (ks M : List (Int × Int)) (z v : Int), get (putAll M ks) z = some v → get M z = some v ∨ (z, v) ∈ ks
  | [], _, _, _, h => .inl h
  | k :: r, M, z, v, h => by
    rcases putAll_sub r (put M k.1 k.2) z v h with h | h
    · rw [get_put] at h
      by_cases e : z = k.1
      · rw [if_pos e] at h
        right
        have : k = (z, v) := Prod.ext e.symm (by simpa using h)
        rw [this]; exact .head _
      · rw [if_neg e] at h; exact .inl h
    · exact .inr (.tail _ h)
theorem putAll_nodup : ∀ (ks M : List (Int × Int)), (M.map (·.1)).Nodup → ((putAll M ks).map (·.1)).Nodup
  | [], _, h => h
  | k :: r, M, h => putAll_nodup r _ (put_nodup _ _ h)
noncomputable def wayL (T U : List (Int × Int)) : List (Int × Int) := T.filterMap fun p => (get U p.2).map fun u => (p.1, u)
theorem way_comp {T U : List (Int × Int)} (hn : (T.map (·.1)).Nodup) : Comp (putAll [] (wayL T U)) T U := by
  have hsub : ∀ k u, (k, u) ∈ wayL T U ↔ ∃ y, get T k = some y ∧ get U y = some u := by
    intro k u
    unfold wayL
    rw [List.mem_filterMap]
    constructor
    · rintro ⟨p, hp, e⟩
      rw [Option.map_eq_some_iff] at e
      obtain ⟨u', h1, h2⟩ := e
      simp only [Prod.mk.injEq] at h2
      obtain ⟨rfl, rfl⟩ := h2
      exact ⟨p.2, get_of_mem hn hp, h1⟩
    · rintro ⟨y, h1, h2⟩
      exact ⟨(k, y), get_mem h1, by simp [h2]⟩
  have hnd : ((wayL T U).map (·.1)).Nodup := by
    have : ∀ T : List (Int × Int), (T.map (·.1)).Nodup → ((wayL T U).map (·.1)).Nodup ∧ ∀ k ∈ (wayL T U).map (·.1), k ∈ T.map (·.1) := by
      intro T
      induction T with
      | nil => exact fun _ => ⟨.nil, fun k hk => hk⟩
      | cons p r ih =>
        intro h
        simp only [List.map_cons, List.nodup_cons] at h
        obtain ⟨i1, i2⟩ := ih h.2
        unfold wayL at i1 i2 ⊢
        cases hg : get U p.2 with
        | none =>
          rw [List.filterMap_cons_none (by simp [hg])]
          exact ⟨i1, fun k hk => .tail _ (i2 k hk)⟩
        | some u =>
          rw [List.filterMap_cons_some (b := (p.1, u)) (by simp [hg])]
          simp only [List.map_cons, List.nodup_cons]
          refine ⟨⟨fun hm => h.1 (i2 _ hm), i1⟩, fun k hk => ?_⟩
          rcases List.mem_cons.mp hk with rfl | hk
          · exact .head _
          · exact .tail _ (i2 k hk)
    exact (this T hn).1
  intro k
  refine opt_ext fun u => ?_
  rw [Option.bind_eq_some_iff]
  constructor
  · intro h
    rcases putAll_sub _ _ _ _ h with h | h
    · cases h
    · exact (hsub k u).mp h
  · intro h
    exact putAll_in _ _ _ _ hnd ((hsub k u).mpr h)
/-! the numbers given -/
theorem nums_facts {b : Int} {ns : List Int} {M : List (Int × Int)} (h : Nums b ns M) (hn : ns.Nodup) : (M.map (·.1)).Nodup ∧ (∀ k ∈ M.map (·.1), k ∈ ns) ∧ M.length ≤ ns.length ∧ ∀ (i : Nat) (p : Int × Int), M[i]? = some p → p.2 = b + Int.fmod (7 * (i : Int)) 11 := by
  induction h with
  | nil => exact ⟨.nil, fun _ h => h, Nat.le_refl _, fun i p h => by simp at h⟩
  | skip _ ih =>
    rw [List.nodup_append] at hn
    obtain ⟨i1, i2, i3, i4⟩ := ih hn.1
    exact ⟨i1, fun k hk => List.mem_append_left _ (i2 k hk), by simp; omega, i4⟩
  | @take ns M k _ ih =>
    rw [List.nodup_append] at hn
    obtain ⟨i1, i2, i3, i4⟩ := ih hn.1
    have hk : k ∉ M.map (·.1) := fun h => hn.2.2 k (i2 k h) k (by simp) rfl
    have e : numStep b M k = M ++ [(k, b + Int.fmod (7 * (M.length : Int)) 11)] := by
      unfold numStep put
      rw [if_neg]
      intro hs
      obtain ⟨x, hx⟩ := Option.isSome_iff_exists.mp hs
      exact hk (key_get.mpr ⟨x, hx⟩)
    refine ⟨put_nodup _ _ i1, fun z hz => ?_, ?_, fun i p hp => ?_⟩
    · rw [e, List.map_append] at hz
      rcases List.mem_append.mp hz with h | h
      · exact List.mem_append_left _ (i2 z h)
      · simp at h; subst h; simp
    · rw [e]; simp; omega
    · rw [e] at hp
      by_cases c : i < M.length
      · rw [List.getElem?_append_left c] at hp; exact i4 i p hp
      · rw [List.getElem?_append_right (by omega)] at hp
        have hi : i - M.length = 0 := by
          have := (List.getElem?_eq_some_iff.mp hp).1
          simp at this
          omega
        rw [hi] at hp
        simp at hp
        subst hp
        have : i = M.length := by omega
        subst this
        rfl
theorem nums_good {b : Int} {ns : List Int} {M : List (Int × Int)} (h : Nums b ns M) (hn : ns.Nodup) (hl : ns.length ≤ 10) : (M.map (·.1)).Nodup ∧ Inj M ∧ Vals M b (b + 11) ∧ M.length ≤ 10 := by
  obtain ⟨h1, h2, h3, h4⟩ := nums_facts h hn
  have at_ : ∀ k y, get M k = some y → ∃ i : Nat, i < M.length ∧ M[i]? = some (k, y) ∧ y = b + Int.fmod (7 * (i : Int)) 11 := by
    intro k y hg
    obtain ⟨i, hi, e⟩ := List.getElem_of_mem (get_mem hg)
    have e' : M[i]? = some (k, y) := by rw [List.getElem?_eq_getElem hi, e]
    exact ⟨i, hi, e', h4 i _ e'⟩
  refine ⟨h1, fun a c y ha hc => ?_, fun k y hg => ?_, by omega⟩
  · obtain ⟨i, hi, e, ey⟩ := at_ a y ha
    obtain ⟨j, hj, e', ey'⟩ := at_ c y hc
    have : i = j := by
      rw [Int.fmod_eq_emod_of_nonneg _ (by decide)] at ey ey'
      omega
    subst this
    rw [e] at e'
    simp at e'
    exact e'
  · obtain ⟨i, hi, e, ey⟩ := at_ k y hg
    have a := fmod_lo (7 * (i : Int)) (n := 11) (by decide)
    have c := fmod_hi (7 * (i : Int)) (n := 11) (by decide)
    omega
/-! E1 -/
section
open PySem.Spec
/-! told data compared with itself -/
inductive Ok : Nat → Dat → Prop
  | none (n : Nat) : Ok n .none
  | bool (n : Nat) (b : Bool) : Ok n (.bool b)
  | int (n : Nat) (i : Int) : Ok n (.int i)
  | str (n : Nat) {x : Str} : PyData.strOk x = true → Ok n (.str x)
  | tuple {n : Nat} {ds : List Dat} : (∀ d ∈ ds, Ok n d) → Ok (n + 1) (.tuple ds)
section
variable {h₀ h : Heap} {L : Addr} {news : Ledger}
theorem ok_reads (N : News h₀ L h news) : ∀ (n : Nat) {v : Value} {d : Dat}, DatIn news v d → Ok n d → ∃ as, Reads h v (kqdP d) as := by
  have all : ∀ (n : Nat), (∀ {v : Value} {d : Dat}, DatIn news v d → Ok n d → ∃ as, Reads h v (kqdP d) as) → ∀ (ds : List Dat) (vs : List Value), DatAll news vs ds → (∀ d ∈ ds, Ok n d) → ∃ as, ReadsAll h vs (kqdPs ds) as := by
    intro n ih ds
    induction ds with
    | nil =>
      intro vs hd _
      cases hd
      exact ⟨_, ReadsAll.nil⟩
    | cons d ds hi =>
      intro vs hd ho
      cases hd with
      | cons h1 h2 =>
        obtain ⟨as, q⟩ := ih h1 (ho d (.head _))
        obtain ⟨bs, p⟩ := hi _ h2 fun e he => ho e (.tail _ he)
        rw [kqdPs]
        exact ⟨_, ReadsAll.cons q p⟩
  intro n
  induction n with
  | zero =>
    intro v d hd ho
    cases ho with
    | none => cases hd; exact ⟨_, Reads.none⟩
    | bool b => cases hd; exact ⟨_, Reads.bool _⟩
    | int i => cases hd; exact ⟨_, Reads.int _ _⟩
    | str hx => cases hd; exact ⟨_, Reads.str _ _⟩
  | succ n ih =>
    intro v d hd ho
    cases ho with
    | none => cases hd; exact ⟨_, Reads.none⟩
    | bool b => cases hd; exact ⟨_, Reads.bool _⟩
    | int i => cases hd; exact ⟨_, Reads.int _ _⟩
    | str hx => cases hd; exact ⟨_, Reads.str _ _⟩
    | tuple ht =>
      cases hd with
      | tuple hm r =>
        obtain ⟨as, q⟩ := all n ih _ _ r ht
        rw [kqdP]
        exact ⟨as, reads_tuple_at (N.get hm) rfl rfl (by simpa using q)⟩
theorem ok_lay : ∀ (n : Nat) {d : Dat}, Ok n d → (kqdP d).canLay0 = true ∧ (kqdP d).depth ≤ n := by
  have all : ∀ (n : Nat), (∀ {d : Dat}, Ok n d → (kqdP d).canLay0 = true ∧ (kqdP d).depth ≤ n) → ∀ ds : List Dat, (∀ d ∈ ds, Ok n d) → PyData.canLayAll0 (kqdPs ds) = true ∧ PyData.depthAll (kqdPs ds) ≤ n := by
    intro n ih ds
    induction ds with
    | nil => intro _; simp [kqdPs, PyData.canLayAll0, PyData.depthAll]
    | cons d ds hi =>
      intro ho
      have h1 := ih (ho d (.head _))
      have h2 := hi fun e he => ho e (.tail _ he)
      have a1 := h1.2
      have a2 := h2.2
      simp only [kqdPs, PyData.canLayAll0, PyData.depthAll, h1.1, h2.1, Bool.and_self, true_and]
      omega
  intro n
  induction n with
  | zero =>
    intro d ho
    cases ho with
    | none => simp [kqdP, PyData.canLay0, PyData.depth]
    | bool b => simp [kqdP, PyData.canLay0, PyData.depth]
    | int i => simp [kqdP, PyData.canLay0, PyData.depth]
    | str _ => simp [kqdP, PyData.canLay0, PyData.depth]; assumption
  | succ n ih =>
    intro d ho
    cases ho with
    | none => simp [kqdP, PyData.canLay0, PyData.depth]
    | bool b => simp [kqdP, PyData.canLay0, PyData.depth]
    | int i => simp [kqdP, PyData.canLay0, PyData.depth]
    | str _ => simp [kqdP, PyData.canLay0, PyData.depth]; assumption
    | tuple ht =>
      have q := all n ih _ ht
      have q2 := q.2
      simp only [kqdP, PyData.canLay0, PyData.depth, q.1, true_and]
      omega
end
mutual
theorem datBut {n₁ news : Ledger} (hs : ∀ p ∈ n₁, p ∈ news ∨ ∃ x, p.2.data = .cell x) : ∀ {v : Value} {d : Dat}, DatIn n₁ v d → DatIn news v d
  | _, _, .none => .none
  | _, _, .bool b => .bool b
  | _, _, .int i t => .int i t
  | _, _, .str x t => .str x t
  | _, _, .bytes b t => .bytes b t
  | _, _, .tuple hm r => .tuple ((hs _ hm).resolve_right (by rintro ⟨x, hx⟩; cases hx)) (datAllBut hs r)
  | _, _, .list hm r => .list ((hs _ hm).resolve_right (by rintro ⟨x, hx⟩; cases hx)) (datAllBut hs r)
theorem datAllBut {n₁ news : Ledger} (hs : ∀ p ∈ n₁, p ∈ news ∨ ∃ x, p.2.data = .cell x) : ∀ {vs : List Value} {ds : List Dat}, DatAll n₁ vs ds → DatAll news vs ds
  | _, _, .nil => .nil
  | _, _, .cons h r => .cons (datBut hs h) (datAllBut hs r)
end
theorem reg44 : True := by
  k_with "SUBC" => first | exact List.forall_mem_nil _ | (refine List.forall_mem_append.mpr ⟨?_, ?_⟩ <;> walk_at "SUBC") | (refine List.forall_mem_cons.mpr ⟨?_, ?_⟩; (first | exact Or.inr ⟨_, by assumption⟩ | (refine Or.inl ?_; k_mem)); walk_at "SUBC") | (intro p hp; refine Or.inl ?_; k_ownIn)
  trivial
section
variable {prog : Program} {w : World} {A : Around} {E : Value → Shared → Prop} {s : Shared} {h₀ : Heap} {L : Addr} {news n₁ n₂ : Ledger} {v u : Value} {d e : Dat} {Q : Value → Shared → Prop}
theorem ne_same (N : News h₀ L s.heap news) (hv : DatIn n₁ v d) (s1 : ∀ p ∈ n₁, p ∈ news ∨ ∃ x, p.2.data = .cell x) (hu : DatIn n₂ u e) (s2 : ∀ p ∈ n₂, p ∈ news ∨ ∃ x, p.2.data = .cell x) (ok : Ok 16 d) (he : d = e) (hc : A.units + 64 < cLine) (h : Q (.bool false) s) : wpAny (model prog w) A (compareOp .NotEq v u) Q E s := by
  subst he
  obtain ⟨as, ra⟩ := ok_reads N 16 (datBut s1 hv) ok
  obtain ⟨bs, rb⟩ := ok_reads N 16 (datBut s2 hu) ok
  have l := ok_lay 16 ok
  have sh : SeqAt.shaped (kqdP d) = true := by unfold SeqAt.shaped; rw [l.1, Bool.true_and]; exact decide_eq_true (Nat.le_trans l.2 (by decide))
  refine ne_dataH ra rb sh sh hc ?_
  rw [SeqAt.eqv_refl _ l.1]
  exact h
end
end
/-! L0 -/
theorem pen_ne {w : World} {A : Around} {h₀ : Heap} {L : Addr} {m : Str → Option Value} {s : Shared} {news : Ledger} {P l g : Addr} {o o' : Obj} {B : Int} {D U k : Nat} {vs : List Value} {ns : List Int} {l' : Ledger}
   (cx : Cx w A h₀ L m s news D U) (hp : Pen l B o) (hU : Upd P o o' news l') (hg : (g, ({ cls := .type "list", data := .seq vs.toArray k } : Obj)) ∈ news) (hi : IntsAre vs ns) : g ≠ P := by
  obtain ⟨seat, great, t1, t2, n, rfl, h0, h1, h2⟩ := hp
  have N := cx.news
  intro e
  subst e
  have a := (N _ (upd_old hU)).1
  have b := (N _ hg).1
  dsimp only at a b
  rw [a] at b
  have c := congrArg Obj.data (Option.some.inj b)
  dsimp only at c
  have d := (Data.seq.inj c).1
  have e := congrArg Array.toList d
  simp at e
  rw [← e] at hi
  cases hi
theorem filt_sub {news : Ledger} {P : Addr} {o : Obj} (h : (P, o) ∈ news) : ∀ p ∈ (P, o) :: news.filter (fun p => decide (p.1 ≠ P)), p ∈ news := fun p hp => by
  rcases List.mem_cons.mp hp with rfl | hp
  · exact h
  · exact (List.mem_filter.mp hp).1
theorem filt_ne {news : Ledger} {P : Addr} : ∀ p ∈ news.filter (fun p => decide (p.1 ≠ P)), p.1 ≠ P := fun p hp => by simpa using (List.mem_filter.mp hp).2
theorem filt_above {news tl : Ledger} {P : Addr} {o : Obj} (ha : Above ((P, o) :: news.filter fun p => decide (p.1 ≠ P)) tl) : Above news tl := fun x hx y hy => by
  by_cases e : y.1 = P
  · rw [e]; exact ha x hx _ (.head _)
  · exact ha x hx y (.tail _ (List.mem_filter.mpr ⟨hy, by simpa using e⟩))
theorem filt_news {h₀ h' : Heap} {L : Addr} {news tl sym l a : Ledger} {P : Addr} {o o' : Obj} (N : News h₀ L h' (tl ++ (P, o') :: news.filter fun p => decide (p.1 ≠ P))) (U : Upd P o o' news l) (hG : Mv tl sym l a) : News h₀ L h' a := fun y hy => by
  rcases List.mem_append.mp (hG.sub y hy) with h | h
  · exact N _ (List.mem_append_left _ h)
  · rcases upd_mem U y h with rfl | ⟨h, hne⟩
    · exact N _ (List.mem_append_right _ (.head _))
    · exact N _ (List.mem_append_right _ (.tail _ (List.mem_filter.mpr ⟨h, by simpa using hne⟩)))
theorem filt_list {news : Ledger} {P g : Addr} {o : Obj} (h : (g, o) ∈ news) (hne : g ≠ P) : (g, o) ∈ news.filter fun p => decide (p.1 ≠ P) := List.mem_filter.mpr ⟨h, by simpa using hne⟩
theorem tables_callG {w : World} {A : Around} {h₀ : Heap} {L : Addr} {m : Str → Option Value} {s : Shared} {news : Ledger} {F sym : Obj → Ledger} {G : Obj → Ledger → Ledger} {P l : Addr} {o : Obj} {B : Int} {Q E : Value → Shared → Prop}
   (cx : Cx w A h₀ L m s news 16 600) (hp : Pen l B o) (hB : B < 9000) (U : ∀ o', Upd P o o' news (F o')) (hG : ∀ o' tl, Mv tl (sym o') (F o') (G o' tl)) (hl : Script news l)
   (ret : ∀ v h' tk' tl x1 x2 n Pt ns ks ks2 R b o', (v, ({ cls := .type "list", data := .seq #[.ref x1, .ref x2] n } : Obj)) ∈ tl → PG Challenge.rw_pb0171_01.row.toRowW.prog w tl x1 Pt (b || moves Pt) → PC Challenge.rw_pb0171_01.row.toRowW.prog w tl x2 ns (putAll [] ks) (putAll [] ks2) R (b || movesL R.flatten) →
     KeysOk Pt → Pt.length < 64 → ns.Pairwise (· < ·) → (∀ g ∈ ns, 0 ≤ g ∧ g < 10) → ns.length ≤ 10 → (∀ k ∈ ks, 0 ≤ k.1 ∧ k.1 < 10 ∧ 1 ≤ k.2 ∧ k.2 ≤ 2) → ks.length ≤ 10 → (∀ k ∈ ks2, 0 ≤ k.1 ∧ k.1 < 10 ∧ k.2 = 1) → ks2.length ≤ 10 → R.length = 3 → (∀ row ∈ R, row.length = 2) →
     Pen l (B + 100) o' → Above news tl → Fr h₀ L h' m → News h₀ L h' (G o' tl) → Q (.ref v) { s with heap := h', toks := tk' }) :
   wpAny (model Challenge.rw_pb0171_01.row.toRowW.prog w) A (call (.ref 271) [.ref P]) Q E s := by
  obtain ⟨vs, ns, k, hmem, hi, hlen⟩ := id hl
  have hne := pen_ne cx hp (U o) hmem hi
  refine tables_call (l := l) (B := B) (o := o) (rest := news.filter fun p => decide (p.1 ≠ P)) (cx.sub (filt_sub (upd_old (U o)))) filt_ne hp hB ⟨vs, ns, k, filt_list hmem hne, hi, hlen⟩ ?_
  intro v h' tk' tl x1 x2 n Pt ns ks ks2 R b o' a1 a2 a3 a4 a5 a6 a7 a8 a9 a10 a11 a12 a13 a14 a15 F' N' ha
  exact ret v h' tk' tl x1 x2 n Pt ns ks ks2 R b o' a1 a2 a3 a4 a5 a6 a7 a8 a9 a10 a11 a12 a13 a14 a15 (filt_above ha) F' (filt_news N' (U o') (hG o' tl))
theorem lawnum_callG {w : World} {A : Around} {h₀ : Heap} {L : Addr} {m : Str → Option Value} {s : Shared} {news : Ledger} {F sym : Obj → Ledger} {G : Obj → Ledger → Ledger} {P l g : Addr} {o : Obj} {B : Int} {vs : List Value} {ns : List Int} {k : Nat} {b : Int} {tb : Tok} {Q E : Value → Shared → Prop}
   (cx : Cx w A h₀ L m s news 10 300) (hp : Pen l B o) (hB : B < 9000) (U : ∀ o', Upd P o o' news (F o')) (hG : ∀ o' tl, Mv tl (sym o') (F o') (G o' tl)) (hl : Script news l) (hg : (g, ({ cls := .type "list", data := .seq vs.toArray k } : Obj)) ∈ news) (hi : IntsAre vs ns) (h64 : ns.length < 64)
   (ret : ∀ D M o' h' tk' tl, Nums b ns M → IDict Challenge.rw_pb0171_01.row.toRowW.prog w tl D M → Pen l (B + 64) o' → Above news tl → Fr h₀ L h' m → News h₀ L h' (G o' tl) → Q (.ref D) { s with heap := h', toks := tk' }) :
   wpAny (model Challenge.rw_pb0171_01.row.toRowW.prog w) A (call (.ref 278) [.ref P, .ref g, .int b tb]) Q E s := by
  obtain ⟨ws, ms, j, hmem, hj, hlen⟩ := id hl
  have hne := pen_ne cx hp (U o) hmem hj
  have hne2 := pen_ne cx hp (U o) hg hi
  refine lawnum_call (l := l) (B := B) (o := o) (rest := news.filter fun p => decide (p.1 ≠ P)) (cx.sub (filt_sub (upd_old (U o)))) filt_ne hp hB ⟨ws, ms, j, filt_list hmem hne, hj, hlen⟩ (filt_list hg hne2) hi h64 ?_
  intro D M o' h' tk' tl a1 a2 a3 F' N' ha
  exact ret D M o' h' tk' tl a1 a2 a3 (filt_above ha) F' (filt_news N' (U o') (hG o' tl))
theorem pen_start {l : Addr} {t1 t2 : Tok} {n : Nat} : Pen l 0 (penObj l 0 0 t1 t2 n) := ⟨0, 0, t1, t2, n, rfl, Int.le_refl _, Int.le_refl _, Int.le_refl _⟩
theorem reg45 : True := by
  k_with "call ref" => (k_here; (with_reducible show wpAny _ _ (call (Value.ref 271) [Value.ref _]) _ _ _); k_dflt (refine' tables_callG ?zcx ?zhp ?zhB ?zU ?zhG ?zhl ?_; (case zcx => walk_at "CX"); (case zU => intro o'; k_upd); (case zhG => intro o' tl'; walk_at "MV"); (case zhp => exact pen_start); (case zhB => omega); (case zhl => exact ⟨_, _, _, by k_mem, by assumption, by assumption⟩); intros))
  k_with "call ref" => (k_here; (with_reducible show wpAny _ _ (call (Value.ref 278) [Value.ref _, Value.ref _, Value.int _ _]) _ _ _); k_dflt (refine' lawnum_callG ?zcx ?zhp ?zhB ?zU ?zhG ?zhl ?zhg ?zhi ?zh64 ?_; (case zcx => walk_at "CX"); (case zU => intro o'; k_upd); (case zhG => intro o' tl'; walk_at "MV"); (case zhp => assumption); (case zhB => omega); (case zhl => first | exact ⟨_, _, _, by k_mem, by assumption, by assumption⟩ | fail "mine"); (case zhg => k_mem); (case zhi => assumption); (case zh64 => first | assumption | decide | omega | fail "mine"); intros))
  trivial
/-! K2 -/
section
variable {prog : Program} {w : World} {A : Around} {E : Value → Shared → Prop} {s : Shared} {h₀ : Heap} {L d : Addr} {m : Str → Option Value} {news : Ledger} {s₁ : Shared} {o : Obj} {M : List (Int × Int)}
/-- the keys of a dict of ints, one after the other -/
theorem iters_idict (hh : A.handled = none) (N : News h₀ L s₁.heap news) (lo : (d == sysModules) = false) (hm : (d, o) ∈ news) (g : IObj prog w o M) :
    Iters prog w A h₀ L (fun nw => (d, o) ∈ nw) (fun i v => ∃ k x t, M[i]? = some (k, x) ∧ v = .int k t) M.length (.ref d) s₁ := by
  intro E Q h
  obtain ⟨kvs, ⟨es, ep, a, b, c, e, f⟩, hf⟩ := g
  obtain ⟨f1, f2⟩ := flat_of hf
  have at_ : ∀ hp : Heap, hp.get? d = some o → hp.DictAt (intKind prog w) d kvs ep := fun hp hg => ⟨o, es, hg, a, b, c, e, f⟩
  have hl := at_ _ (N _ hm).1
  have hlt : d < s₁.heap.objs.size := Heap.lt_size (N _ hm).1
  have hP : ∀ (i : Nat) (v : Value), (∃ k x, kvs[i]? = some (k, x) ∧ (intKind prog w).is k v = true) → ∃ k x t, M[i]? = some (k, x) ∧ v = .int k t := by
    rintro i v ⟨k, x, hx, hk⟩
    obtain ⟨y, t, e1, e2⟩ := f2 i k x hx
    have : ∃ t, v = Value.int k t := by
      have : Value.isInt k v = true := by simpa [intKind] using hk
      unfold Value.isInt at this
      split at this
      · rename_i j t; exact ⟨t, by simp at this; rw [this]⟩
      · cases this
    obtain ⟨t', e3⟩ := this
    exact ⟨k, y, t', e1, e3⟩
  have W := Walks.dictKeys (prog := prog) (w := w) (knd := intKind prog w) (A := A) hh s₁.heap.objs.size d (Nat.ne_of_lt hlt) kvs ep
  rw [f1] at W
  refine wpAny_pyIter_dict lo hl (h _ _ _ ({ W with item := fun i s Q E hi st hQ => W.item i s Q E hi st fun v h' tk hp => hQ v h' tk (hP i v hp) } : Walks prog w A s₁.heap.objs.size [s₁.heap.objs.size, d] [s₁.heap.objs.size] M.length (fun i v => ∃ k x t, M[i]? = some (k, x) ∧ v = .int k t) _) (fun i h st => by obtain ⟨o, e, _⟩ := st.1; exact ⟨o, e⟩) (fun i h h' o nw st e e' _ N' S => ?_) ?_ (fun b hb => ?_))
  · obtain ⟨o', q, r⟩ := st.1
    rw [e] at q; cases q
    exact ⟨⟨o, e', r⟩, at_ _ (N' _ S).1⟩
  · rw [f1]
    exact ⟨⟨_, Heap.get?_push_size _ rfl, rfl, rfl⟩, at_ _ (Heap.get?_push_of_some _ (N _ hm).1)⟩
  · rw [Heap.size_push]
    rcases List.mem_cons.mp hb with rfl | hb
    · exact Nat.lt_succ_self _
    · rw [List.mem_singleton.mp hb]; exact Nat.lt_succ_of_lt hlt
end
/-! L2 -/
section
variable {prog : Program} {w : World} {A : Around} {E : Value → Shared → Prop} {s : Shared} {h₀ : Heap} {L d : Addr} {news full : Ledger} {o : Obj} {M : List (Int × Int)}
theorem i_method {name : Str} {id : String} {pl : Sem Bool} {Q : Value × List Value → Shared → Prop} (slot : Slot "dict" name id) (ty : typeOf (.builtin id) = pure (.type "method_descriptor")) (N : News h₀ L s.heap full) (hp : (d, o) ∈ full) (g : IObj prog w o M) (h : Q (.builtin id, [.ref d]) s) :
    wpAny (model prog w) A (getMethod (.ref d) name pl) Q E s := by
  obtain ⟨kvs, ⟨es, ep, hc, _⟩, _⟩ := g
  exact getMethod_builtin (T := "dict") ⟨_, (N _ hp).1, hc.1⟩ PySem.F.plainAttrs_dict slot ty (fun a e => by cases e; exact ⟨_, (N _ hp).1, hc.2.1⟩) h
theorem i_values {m : Str → Option Value} {Q : Value → Shared → Prop} (F : Fr h₀ L s.heap m) (N : News h₀ L s.heap full) (lo : (d == sysModules) = false) (hp : (d, o) ∈ full) (g : IObj prog w o M)
    (h : ∀ (B : Addr) h', Fr h₀ L h' m → News h₀ L h' ((B, { cls := .type "dict_values", data := .fields #[.ref d] }) :: full) → (∀ q ∈ full, q.1 < B) → Q (.ref B) { s with heap := h' }) :
    wpAny (model prog w) A (call (.builtin "dict.values") [.ref d]) Q E s := by
  obtain ⟨kvs, ⟨es, ep, hc, _⟩, _⟩ := g
  exact raw_values_call lo ⟨_, (N _ hp).1, hc.1⟩ (h _ _ (F.push _) (News.push F N _) fun q hq => Heap.lt_size (N q hq).1)
end
theorem reg46 : True := by
  k_with "getMethod ref" => (k_here; (with_reducible show wpAny _ _ (getMethod (Value.ref _) (Str.ofString "values") _) _ _ _); k_dflt (refine' i_method PySem.F.slot_dict_values PySem.F.type_dict_values ?zN ?zhm ?zg ?_; (case zN => k_asm); (case zhm => k_mem); (case zg => assumption)))
  k_with "call builtin:dict.values" => (k_here; k_dflt (refine' i_values ?zF ?zN ?zlo ?zhm ?zg ?_; (case zF => k_asm); (case zN => k_asm); (case zlo => assumption); (case zhm => k_mem); (case zg => assumption)); intros; (rename_i l1; k_lt l1; revert l1; intros))
  k_with "call builtin:sorted cons nil" => (k_here; k_dflt (refine' sorted_vals ?zhh ?zF ?zN ?zhd ?zhv ?zh64 ?_; (case zhh => exact rfl); (case zF => k_asm); (case zN => k_asm); (case zhv => k_mem); (case zhd => refine IDict.mono (by assumption) ?_; walk_at "SUB"); (case zh64 => omega); intros; (rename_i l1 _; k_lt l1; revert l1; intros); (have hn9 := IntsAre.length ‹IntsAre _ _›); (rw [srt_length, List.length_map] at hn9); revert hn9; intros))
  trivial
section
variable {prog : Program} {w : World} {A : Around} {E : Value → Shared → Prop} {s : Shared} {h₀ : Heap} {L d : Addr} {full : Ledger} {o : Obj} {M : List (Int × Int)}
theorem i_tab (N : News h₀ L s.heap full) (lo : (d == sysModules) = false) (hm : (d, o) ∈ full) (g : IObj prog w o M) : IntTab prog w s.heap d (mapD M) := by
  obtain ⟨kvs, ho, hf⟩ := g
  exact ⟨lo, kvs, Heap.dictOf_iff.mpr ⟨o, (N _ hm).1, ho⟩, hf⟩
theorem i_item {value slice : Expr} {k x : Int} {u : Tok} {Q : Value → Shared → Prop} (N : News h₀ L s.heap full) (lo : (d == sysModules) = false) (hm : (d, o) ∈ full) (g : IObj prog w o M) (hk : get M k = some x)
    (h : ∀ t tk, Q (.int x t) { s with toks := tk })
    (hs : subscripted slice false (.ref d) (.int k u) = operate [.ref d, .int k u] (getItem (.ref d) (.int k u)) := by with_unfolding_all rfl) (hg : ∀ r, letTemporaryGo value (.ref d) r = pure () := by intro _; with_unfolding_all rfl) :
    wpAny (model prog w) A (subscriptTail value slice (.ref d) (.int k u)) Q E s := by
  refine item_intTab (dv := .int x) (i_tab N lo hm g) (by rw [lookup_mapD, hk]; rfl) (fun v hv => ?_) hs hg
  obtain ⟨t, rfl⟩ := Flat.int_inv hv
  exact h _ _
theorem i_in {k : Int} {u : Tok} {Q : Value → Shared → Prop} (N : News h₀ L s.heap full) (lo : (d == sysModules) = false) (hm : (d, o) ∈ full) (g : IObj prog w o M) (h : ∀ tk, Q (.bool (get M k).isSome) { s with toks := tk }) :
    wpAny (model prog w) A (compareOp .In (.int k u) (.ref d)) Q E s := by
  refine in_intTab (i_tab N lo hm g) ?_
  rw [lookup_mapD, Option.isSome_map]
  exact h _
end
theorem reg47 : True := by
  k_with "I_ITEM" => (k_here; (with_reducible show wpAny _ _ (subscriptTail _ _ (Value.ref _) (Value.int _ _)) _ _ _); k_dflt (refine' i_item ?zN ?zlo ?zhm ?zg ?zhk ?_ ?zhs ?zhg; (case zlo => assumption); (case zN => k_asm); (case zhm => k_mem); (case zg => assumption); (case zhk => assumption); (case zhs => with_unfolding_all rfl); (case zhg => intro _; with_unfolding_all rfl)); intros)
  k_with "subscriptTail Name Name ref int" => walk_at "I_ITEM"
  k_with "subscriptTail Name Subscript ref int" => walk_at "I_ITEM"
  k_with "compareOp In int ref" => (k_here; k_dflt (refine' i_in ?zN ?zlo ?zhm ?zg ?_; (case zlo => assumption); (case zN => k_asm); (case zhm => k_mem); (case zg => assumption)); intros)
  trivial
structure NumGood (b : Int) (M : List (Int × Int)) : Prop where
  nd : (M.map (·.1)).Nodup
  inj : Inj M
  vals : Vals M b (b + 11)
  len : M.length ≤ 10
theorem NumGood.of {b : Int} {ns : List Int} {M : List (Int × Int)} (h : Nums b ns M) (hn : ns.Nodup) (hl : ns.length ≤ 10) : NumGood b M := by
  obtain ⟨a1, a2, a3, a4⟩ := nums_good h hn hl
  exact ⟨a1, a2, a3, a4⟩
theorem NumGood.vnd {b : Int} {M : List (Int × Int)} (h : NumGood b M) : (M.map (·.2)).Nodup := by
  obtain ⟨nd, inj, _, _⟩ := h
  have : ∀ N : List (Int × Int), (∀ p ∈ N, p ∈ M) → (N.map (·.1)).Nodup → (N.map (·.2)).Nodup := by
    intro N
    induction N with
    | nil => exact fun _ _ => .nil
    | cons p r ih =>
      intro hs hn
      simp only [List.map_cons, List.nodup_cons] at hn ⊢
      refine ⟨fun hm => ?_, ih (fun q hq => hs q (.tail _ hq)) hn.2⟩
      obtain ⟨q, hq, e⟩ := List.mem_map.mp hm
      have e1 := get_of_mem nd (hs p (.head _) : (p.1, p.2) ∈ M)
      have e2 := get_of_mem nd (hs q (.tail _ hq) : (q.1, q.2) ∈ M)
      rw [e] at e2
      have e3 := inj _ _ _ e1 e2
      exact hn.1 (e3 ▸ List.mem_map_of_mem (f := fun x : Int × Int => x.1) hq)
  exact this M (fun _ h => h) nd
theorem NumGood.next {b c : Int} {M U : List (Int × Int)} (h : NumGood b M) (hU : Nums c (srt (M.map (·.2))) U) : NumGood c U :=
  .of hU ((srt_perm _).nodup_iff.mpr h.vnd) (by rw [srt_length, List.length_map]; exact h.len)
theorem reg48 : True := by
  k_with "call ref" => (k_here; (with_reducible show wpAny _ _ (call (Value.ref 278) [Value.ref _, Value.ref _, Value.int _ _]) _ _ _); k_dflt (refine' lawnum_callG ?zcx ?zhp ?zhB ?zU ?zhG ?zhl ?zhg ?zhi ?zh64 ?_; (case zcx => walk_at "CX"); (case zU => intro o'; k_upd); (case zhG => intro o' tl'; walk_at "MV"); (case zhp => assumption); (case zhB => omega); (case zhl => first | exact ⟨_, _, _, by k_mem, by assumption, by assumption⟩ | fail "mine"); (case zhg => k_mem); (case zhi => assumption); (case zh64 => first | decide | (rw [srt_length, List.length_map]; omega) | assumption | fail "mine"); intros; (obtain ⟨_, _, _, _⟩ := id ‹IDict _ _ _ _ _›); (first | (have ng9 := NumGood.of ‹Nums _ _ _› (by decide) (by decide); have nl9 := ng9.len; revert ng9 nl9; intros) | (have ng9 := NumGood.next (by assumption) ‹Nums _ _ _›; have nl9 := ng9.len; revert ng9 nl9; intros))))
  trivial
/-! told -/
theorem ok_ints (n : Nat) (l : List Int) : Ok (n + 1) (tupI l) := .tuple fun d hd => by
  obtain ⟨i, _, rfl⟩ := List.mem_map.mp hd
  exact .int _ _
theorem ok_two {n : Nat} {d e : Dat} (h1 : Ok n d) (h2 : Ok n e) : Ok (n + 1) (.tuple [d, e]) := .tuple fun x hx => by
  simp only [List.mem_cons, List.not_mem_nil, or_false] at hx
  rcases hx with rfl | rfl
  · exact h1
  · exact h2
theorem ok_pair (n : Nat) (p q : Int) : Ok (n + 2) (pairD p q) := ok_two (ok_ints n _) (ok_ints n _)
theorem ok_val (o : Option (Int × Int)) : Ok 16 (valD o) := by
  cases o with
  | none => exact .none _
  | some x => exact ok_pair 14 _ _
theorem ok_toldG (P : PT) (b : Bool) : Ok 16 (toldG P b) := .tuple fun x hx => by
  simp only [List.mem_cons, List.not_mem_nil, or_false] at hx
  rcases hx with rfl | rfl | rfl
  · exact .str _ (by decide +kernel)
  · exact .bool _ _
  · refine .tuple (n := 14) fun d hd => ?_
    obtain ⟨k, _, rfl⟩ := List.mem_map.mp hd
    exact ok_two (n := 13) (ok_ints 12 _) (ok_pair 11 _ _)
theorem ok_ctD (n : Nat) (M : List (Int × Int)) : Ok (n + 2) (ctD M) := .tuple fun d hd => by
  obtain ⟨k, _, rfl⟩ := List.mem_map.mp hd
  exact ok_ints n _
theorem ok_toldC (ns : List Int) (F S : List (Int × Int)) (R : List (List (Int × Int))) (b : Bool) : Ok 16 (toldC ns F S R b) := .tuple fun x hx => by
  simp only [List.mem_cons, List.not_mem_nil, or_false] at hx
  rcases hx with rfl | rfl | rfl | rfl | rfl | rfl
  · exact .str _ (by decide +kernel)
  · exact .bool _ _
  · exact ok_ints 14 _
  · exact ok_ctD 13 _
  · exact ok_ctD 13 _
  · refine .tuple (n := 14) fun d hd => ?_
    obtain ⟨r, _, rfl⟩ := List.mem_map.mp hd
    refine .tuple (n := 13) fun d hd => ?_
    obtain ⟨z, _, rfl⟩ := List.mem_map.mp hd
    exact ok_pair 11 _ _
/-! T1 -/
/-! a table of either kind -/
inductive TT where
  | gly (P : PT) (b : Bool)
  | cla (ns : List Int) (F S : List (Int × Int)) (R : List (List (Int × Int))) (b : Bool)
noncomputable def TT.told : TT → Dat
  | .gly P b => toldG P b
  | .cla ns F S R b => toldC ns F S R b
noncomputable def TT.find : TT → Int → Int → Option (Int × Int)
  | .gly P _, a, c => pget P (a, c)
  | .cla ns F S R _, a, c => findC ns F S R a c
noncomputable def TT.cut : TT → List (Int × Int) → TT
  | .gly P b, T => .gly (cutG P T) (b || moves (cutG P T))
  | .cla ns F S R b, T => .cla (tcov ns T) (tcl F T) (tcl S T) R (b || movesL R.flatten)
noncomputable def TT.second : TT → Bool
  | .gly _ b => b
  | .cla _ _ _ _ b => b
noncomputable def TT.toldAt : TT → Addr
  | .gly _ _ => 166
  | .cla _ _ _ _ _ => 198
noncomputable def Tab (w : World) (news : Ledger) (x : Addr) : TT → Prop
  | .gly P b => PG Challenge.rw_pb0171_01.row.toRowW.prog w news x P b
  | .cla ns F S R b => PC Challenge.rw_pb0171_01.row.toRowW.prog w news x ns F S R b
theorem Tab.mono {w : World} {news news' : Ledger} {x : Addr} {t : TT} (h : Tab w news x t) (s : ∀ p ∈ news, p ∈ news') : Tab w news' x t := by
  cases t with
  | gly P b => exact PG.mono h s
  | cla ns F S R b => exact PC.mono h s
/-- what the calls ask of a table -/
noncomputable def TT.Fit : TT → Prop
  | .gly P _ => P.length < 64 ∧ SmallP P
  | .cla ns F S R _ => ns.length < 64 ∧ ns.Pairwise (· < ·) ∧ F.length < 64 ∧ S.length < 64 ∧ (∀ k, 0 ≤ (get F k).getD 0) ∧ (∀ k, 0 ≤ (get S k).getD 0) ∧ R.length < 64 ∧ (∀ row ∈ R, row.length < 64) ∧ R.flatten.length < 64
/-- the second format is told whenever a pair moves its second glyph -/
noncomputable def TT.Sec : TT → Prop
  | .gly P b => moves P = true → b = true
  | .cla _ _ _ R b => movesL R.flatten = true → b = true
/-- what the tables drawn are -/
noncomputable def TT.Drawn : TT → Prop
  | .gly P _ => (∀ p ∈ P, 0 ≤ p.1.1 ∧ p.1.1 < 10 ∧ 0 ≤ p.1.2 ∧ p.1.2 < 10) ∧ (P.map (·.1)).Nodup
  | .cla ns F S _ _ => ns.Pairwise (· < ·) ∧ (∀ g ∈ ns, 0 ≤ g ∧ g < 10) ∧ (∀ k v, get F k = some v → 0 ≤ k ∧ k < 10) ∧ (F.map (·.1)).Nodup ∧ (∀ k v, get S k = some v → 0 ≤ k ∧ k < 10) ∧ (S.map (·.1)).Nodup
theorem TT.Drawn.small {P : PT} {b : Bool} (h : (TT.gly P b).Drawn) : SmallP P := fun p hp => by
  have := h.1 p hp
  exact ⟨by omega, by omega, by omega, by omega⟩
theorem tcl_nonneg {M T : List (Int × Int)} (hT : Inj T) (h : ∀ k, 0 ≤ (get M k).getD 0) : ∀ k, 0 ≤ (get (tcl M T) k).getD 0 := fun k => by
  cases hg : get (tcl M T) k with
  | none => exact Int.le_refl _
  | some v =>
    obtain ⟨k', h1, _⟩ := (tcl_get hT _ _).mp hg
    have := h k'
    rw [h1] at this
    exact this
structure Way (lo hi : Int) (T : List (Int × Int)) : Prop where
  inj : Inj T
  vals : Vals T lo hi
  lo0 : 0 ≤ lo
  hi1 : hi ≤ 1000
theorem TT.Fit.cut {t : TT} {T : List (Int × Int)} {lo hi : Int} (h : t.Fit) (hw : Way lo hi T) : (t.cut T).Fit := by
  obtain ⟨hT, hv, h0, h1⟩ := hw
  cases t with
  | gly P b =>
    obtain ⟨a1, a2⟩ := h
    exact ⟨Nat.lt_of_le_of_lt (cut_length P T) a1, cut_small hT a2 hv h0 h1⟩
  | cla ns F S R b =>
    obtain ⟨a1, a2, a3, a4, a5, a6, a7, a8, a9⟩ := h
    exact ⟨Nat.lt_of_le_of_lt (tcov_length _ _) a1, tcov_strict _ _, Nat.lt_of_le_of_lt (tcl_length _ _) a3, Nat.lt_of_le_of_lt (tcl_length _ _) a4, tcl_nonneg hT a5, tcl_nonneg hT a6, a7, a8, a9⟩
theorem sec_or {a b : Bool} (h : a = true → b = true) : (b || a) = b := by
  cases a with
  | false => simp
  | true => simp [h rfl]
theorem TT.cut_second {t : TT} {T : List (Int × Int)} {lo hi : Int} (h : t.Fit) (hs : t.Sec) (hw : Way lo hi T) : (t.cut T).second = t.second := by
  cases t with
  | gly P b => exact sec_or fun e => hs (moves_cut hw.inj h.2 e)
  | cla ns F S R b => exact sec_or hs
theorem TT.Sec.cut {t : TT} {T : List (Int × Int)} : (t.cut T).Sec := by
  cases t with
  | gly P b => exact fun e => by rw [e]; simp
  | cla ns F S R b => exact fun e => by rw [e]; simp
theorem TT.cut_comp {t : TT} {T U W : List (Int × Int)} {lo hi lo2 hi2 : Int} (h : t.Fit) (hs : t.Sec) (hT : Way lo hi T) (hU : Way lo2 hi2 U) (hW : Comp W T U) : ((t.cut T).cut U).told = (t.cut W).told := by
  cases t with
  | gly P b =>
    refine Mine.cut_comp hT.inj hU.inj hW h.2 hT.vals hT.lo0 hT.hi1 ?_
    have s1 : moves (cutG P T) = true → b = true := fun e => hs (moves_cut hT.inj h.2 e)
    have s2 : moves (cutG (cutG P T) U) = true → b = true := fun e => s1 (moves_cut hU.inj (cut_small hT.inj h.2 hT.vals hT.lo0 hT.hi1) e)
    have s3 : moves (cutG P W) = true → b = true := fun e => hs (moves_cut (hW.inj hT.inj hU.inj) h.2 e)
    rw [sec_or s1, sec_or s2, sec_or s3]
  | cla ns F S R b =>
    refine cutC_comp hT.inj hU.inj hW ?_
    rw [sec_or (a := movesL R.flatten) (b := b) hs, sec_or (a := movesL R.flatten) (b := b) hs]
theorem TT.cut_find {t : TT} {T : List (Int × Int)} {lo hi a c y1 y2 : Int} (h : t.Fit) (hT : Way lo hi T) (h1 : get T a = some y1) (h2 : get T c = some y2) : (t.cut T).find y1 y2 = t.find a c := by
  cases t with
  | gly P b => exact Mine.cut_find hT.inj h.2 h1 h2
  | cla ns F S R b => exact cutC_find hT.inj h1 h2
theorem TT.cut_none {t : TT} {T : List (Int × Int)} {lo hi g c : Int} (h : t.Fit) (hT : Way lo hi T) (hg : g < lo) : (t.cut T).find g c = none := by
  cases t with
  | gly P b => exact Mine.cut_none hT.inj h.2 hT.vals hg
  | cla ns F S R b => exact cutC_none hT.vals hg
theorem TT.cut_empty {t : TT} {g c : Int} (h : t.Fit) : (t.cut []).find g c = none := by
  cases t with
  | gly P b => exact Mine.cut_empty h.2 _
  | cla ns F S R b => exact cutC_empty
theorem TT.cut_id {t : TT} {I : List (Int × Int)} (h : t.Fit) (hs : t.Sec) (hd : t.Drawn) (hI : ∀ k y, get I k = some y ↔ (0 ≤ k ∧ k < 10) ∧ y = k) : (t.cut I).told = t.told := by
  have hT : Inj I := fun a c y h1 h2 => by rw [hI] at h1 h2; omega
  cases t with
  | gly P b => exact Mine.cut_id hI hd.1 hd.2 (sec_or fun e => hs (moves_cut hT h.2 e))
  | cla ns F S R b =>
    obtain ⟨d1, d2, d3, d4, d5, d6⟩ := hd
    exact cutC_id hI d1 d2 d3 d4 d5 d6 (sec_or hs)
theorem ok_tt (t : TT) : Ok 16 t.told := by
  cases t with
  | gly P b => exact ok_toldG P b
  | cla ns F S R b => exact ok_toldC ns F S R b
/-- all glyphs with their own numbers -/
noncomputable def idM : List (Int × Int) := (List.range 10).map fun i : Nat => ((i : Int), (i : Int))
theorem idM_get : ∀ k y, get (putAll [] idM) k = some y ↔ (0 ≤ k ∧ k < 10) ∧ y = k := by
  have e : putAll [] idM = idM := by decide +kernel
  intro k y
  rw [e]
  constructor
  · intro h
    have := get_mem h
    simp only [idM, List.mem_map, List.mem_range, Prod.mk.injEq] at this
    obtain ⟨i, hi, e1, e2⟩ := this
    omega
  · rintro ⟨⟨h1, h2⟩, e2⟩
    refine get_of_mem (by decide +kernel) ?_
    simp only [idM, List.mem_map, List.mem_range, Prod.mk.injEq]
    exact ⟨k.toNat, by omega, by omega, by omega⟩
theorem idM_way : Way 0 10 (putAll [] idM) := ⟨fun a c y h1 h2 => by rw [idM_get] at h1 h2; omega, fun k y h => by rw [idM_get] at h; omega, by decide, by decide⟩
theorem nil_way : Way 0 10 [] := ⟨fun a c y h => (by cases h), fun k y h => (by cases h), by decide, by decide⟩
theorem NumGood.way {b : Int} {M : List (Int × Int)} (h : NumGood b M) (h0 : 0 ≤ b) (h1 : b ≤ 900) : Way b (b + 11) M := ⟨h.inj, h.vals, h0, by omega⟩
/-! T0 -/
/-! a table's facts speak of no cell -/
noncomputable abbrev But (n₁ news : Ledger) : Prop := ∀ p ∈ n₁, p ∈ news ∨ ∃ x, p.2.data = .cell x
section
variable {n₁ news : Ledger}
theorem But.at {a : Addr} {o : Obj} (s : But n₁ news) (m : (a, o) ∈ n₁) (h : ∀ x, o.data ≠ .cell x) : (a, o) ∈ news := (s _ m).resolve_right fun ⟨x, e⟩ => h x e
theorem ValAt.but {x : Addr} {a b c d : Int} (h : ValAt n₁ x a b c d) (s : But n₁ news) : ValAt news x a b c d := by
  obtain ⟨dx, h1, h2, h3, h4, t1, t2, t3, t4, u1, u2, u3, u4, n, m1, m2⟩ := h
  exact ⟨dx, h1, h2, h3, h4, t1, t2, t3, t4, u1, u2, u3, u4, n, s.at m1 (fun x e => by cases e), s.at m2 (fun x e => by cases e)⟩
theorem PairAt.but {v : Value} {p q : Int} (h : PairAt n₁ v p q) (s : But n₁ news) : PairAt news v p q := by
  obtain ⟨y, x1, x2, n, e, m, v1, v2⟩ := h
  exact ⟨y, x1, x2, n, e, s.at m (fun x e => by cases e), v1.but s, v2.but s⟩
theorem PV.but {D : List GE} {P : PT} (h : PV n₁ D P) (s : But n₁ news) : PV news D P := by
  induction h with
  | nil => exact .nil
  | cons a _ ih => exact .cons (a.but s) ih
theorem PL.but {vs : List Value} {xs : List (Int × Int)} (h : PL n₁ vs xs) (s : But n₁ news) : PL news vs xs := by
  induction h with
  | nil => exact .nil
  | cons a _ ih => exact .cons (a.but s) ih
theorem RowL.but {rows : List (Addr × List Value)} {R : List (List (Int × Int))} (h : RowL n₁ rows R) (s : But n₁ news) : RowL news rows R := by
  induction h with
  | nil => exact .nil
  | cons a b _ ih => exact .cons (s.at a fun x e => by cases e) (b.but s) ih
theorem TupAt.but {v : Value} {k : Int × Int} (h : TupAt n₁ v k) (s : But n₁ news) : TupAt news v k := by
  obtain ⟨a, t, u, n, e, m⟩ := h
  exact ⟨a, t, u, n, e, s.at m fun x e => by cases e⟩
variable {prog : Program} {w : World}
theorem GObj.but {o : Obj} {D : List GE} (h : GObj prog w n₁ o D) (s : But n₁ news) : GObj prog w news o D := by
  obtain ⟨es, ep, a, b, c, d, e⟩ := h
  exact ⟨es, ep, a, b, c, fun x hx => (d x hx).but s, e⟩
theorem GObj.nocell {o : Obj} {D : List GE} (h : GObj prog w n₁ o D) : ∀ x, o.data ≠ .cell x := fun x e => by
  obtain ⟨es, ep, _, b, _⟩ := h
  rw [b] at e
  cases e
theorem IObj.nocell {o : Obj} {M : List (Int × Int)} (h : IObj prog w o M) : ∀ x, o.data ≠ .cell x := fun x e => by
  obtain ⟨kvs, ⟨es, ep, hc, b, _⟩, _⟩ := h
  rw [b] at e
  cases e
theorem IDict.but {d : Addr} {M : List (Int × Int)} (h : IDict prog w n₁ d M) (s : But n₁ news) : IDict prog w news d M := by
  obtain ⟨o, m, i, r⟩ := h
  exact ⟨o, s.at m i.nocell, i, r⟩
theorem CDef.but {x : Addr} {M : List (Int × Int)} (h : CDef prog w n₁ x M) (s : But n₁ news) : CDef prog w news x M := by
  obtain ⟨dx, d, hh, t, n, a, b, c⟩ := h
  exact ⟨dx, d, hh, t, n, s.at a (fun x e => by cases e), s.at b (fun x e => by cases e), c.but s⟩
theorem Cov.but {x : Addr} {ns : List Int} (h : Cov n₁ x ns) (s : But n₁ news) : Cov news x ns := by
  obtain ⟨dx, t, hh, tt, n, k, vs, a, b, c, d⟩ := h
  exact ⟨dx, t, hh, tt, n, k, vs, s.at a (fun x e => by cases e), s.at b (fun x e => by cases e), s.at c (fun x e => by cases e), d⟩
theorem Tab.but {x : Addr} {t : TT} (h : Tab w n₁ x t) (s : But n₁ news) : Tab w news x t := by
  cases t with
  | gly P b =>
    obtain ⟨dx, d, h1, h2, t1, t2, n, o, D, m1, m2, m3, g, p, l⟩ := h
    exact ⟨dx, d, h1, h2, t1, t2, n, o, D, s.at m1 (fun x e => by cases e), s.at m2 (fun x e => by cases e), s.at m3 g.nocell, g.but s, p.but s, l⟩
  | cla ns F S R b =>
    obtain ⟨dx, c, f, g, r, h1, h2, h3, h4, h5, t1, t2, t3, t4, t5, n, k, rows, m1, m2, m3, m4, m5, m6, m7⟩ := h
    exact ⟨dx, c, f, g, r, h1, h2, h3, h4, h5, t1, t2, t3, t4, t5, n, k, rows, s.at m1 (fun x e => by cases e), s.at m2 (fun x e => by cases e), m3.but s, m4.but s, m5.but s, s.at m6 (fun x e => by cases e), m7.but s⟩
end
/-! T2 -/
section
variable {w : World} {A : Around} {h₀ : Heap} {L : Addr} {m : Str → Option Value} {s : Shared} {news sym : Ledger} {G : Ledger → Ledger} {x : Addr} {t : TT} {Q E : Value → Shared → Prop}
theorem tab_told (cx : Cx w A h₀ L m s news 9 300) (hG : ∀ tl, Mv tl sym news (G tl)) (hx : Tab w news x t) (hf : t.Fit)
   (ret : ∀ v h' tk' tl, DatIn (tl ++ news) v t.told → Above news tl → Fr h₀ L h' m → News h₀ L h' (G tl) → Q v { s with heap := h', toks := tk' }) :
   wpAny (model Challenge.rw_pb0171_01.row.toRowW.prog w) A (call (.ref t.toldAt) [.ref x]) Q E s := by
  cases t with
  | gly P b => exact pg_told cx hG hx hf.1 hf.2 ret
  | cla ns F S R b =>
    obtain ⟨a1, a2, a3, a4, a5, a6, a7, a8, a9⟩ := hf
    exact pc_told cx hG hx a1 a3 a4 a7 a8 ret
theorem tab_cut {d : Addr} {T : List (Int × Int)} (cx : Cx w A h₀ L m s news 12 400) (hG : ∀ tl, Mv tl sym news (G tl)) (hx : Tab w news x t) (hf : t.Fit) (hd : IDict Challenge.rw_pb0171_01.row.toRowW.prog w news d T)
   (ret : ∀ x' h' tk' tl, Tab w (tl ++ news) x' (t.cut T) → Above news tl → Fr h₀ L h' m → News h₀ L h' (G tl) → Q (.ref x') { s with heap := h', toks := tk' }) :
   wpAny (model Challenge.rw_pb0171_01.row.toRowW.prog w) A (call (.ref 217) [.ref x, .ref d]) Q E s := by
  cases t with
  | gly P b => exact cutg_call cx hG hx hf.1 hf.2 hd ret
  | cla ns F S R b =>
    obtain ⟨a1, a2, a3, a4, a5, a6, a7, a8, a9⟩ := hf
    exact cutc_call cx hG hx a1 a3 a4 a9 hd ret
theorem tab_found {a c : Int} {ta tc : Tok} (cx : Cx w A h₀ L m s news 12 400) (hG : ∀ tl, Mv tl sym news (G tl)) (hx : Tab w news x t) (hf : t.Fit)
   (ret : ∀ v h' tk' tl, DatIn tl v (valD (t.find a c)) → Above news tl → Fr h₀ L h' m → News h₀ L h' (G tl) → Q v { s with heap := h', toks := tk' }) :
   wpAny (model Challenge.rw_pb0171_01.row.toRowW.prog w) A (call (.ref 285) [.ref x, .int a ta, .int c tc]) Q E s := by
  cases t with
  | gly P b => exact foundg_call cx hG hx ret
  | cla ns F S R b =>
    obtain ⟨a1, a2, a3, a4, a5, a6, a7, a8, a9⟩ := hf
    exact foundc_call cx hG hx a1 a2 a5 a6 a7 a8 ret
end
section
variable {w : World} {A : Around} {h₀ : Heap} {L : Addr} {m : Str → Option Value} {s : Shared} {news : Ledger} {D U : Nat} {x : Addr} {t : TT} {E : Value → Shared → Prop}
theorem tab_second {ex : Bool} {Q : Value → Shared → Prop} (cx : Cx w A h₀ L m s news D U) (hx : Tab w news x t) (h : ∀ tk, Q (.bool t.second) { s with toks := tk }) :
    wpAny (model Challenge.rw_pb0171_01.row.toRowW.prog w) A (getAttr (.ref x) (Str.ofString "is_second") ex) Q E s := by
  cases t with
  | gly P b =>
    refine PG.elim hx ?_
    (try clear hx)
    intro dx d h1 h2 t1 t2 n o D m1 m2 m3 g p lo
    walk_at "OPEN"
    k_steps
    exact h _
  | cla ns F S R b =>
    refine PC.elim hx ?_
    (try clear hx)
    intro dx cv f g r h1 h2 h3 h4 h5 t1 t2 t3 t4 t5 n k rows m1 m2 m3 m4 m5 m6 m7
    walk_at "OPEN"
    k_steps
    exact h _
theorem tab_method {pl : Sem Bool} {Q : Value × List Value → Shared → Prop} (cx : Cx w A h₀ L m s news D U) (hx : Tab w news x t) (h : Q (.ref t.toldAt, [.ref x]) s) :
    wpAny (model Challenge.rw_pb0171_01.row.toRowW.prog w) A (getMethod (.ref x) (Str.ofString "told") pl) Q E s := by
  cases t with
  | gly P b =>
    refine PG.elim hx ?_
    (try clear hx)
    intro dx d h1 h2 t1 t2 n o D m1 m2 m3 g p lo
    walk_at "OPEN"
    k_steps
    exact h
  | cla ns F S R b =>
    refine PC.elim hx ?_
    (try clear hx)
    intro dx cv f g r h1 h2 h3 h4 h5 t1 t2 t3 t4 t5 n k rows m1 m2 m3 m4 m5 m6 m7
    walk_at "OPEN"
    k_steps
    exact h
end
/-! T3 -/
section
variable {prog : Program} {w : World} {A : Around} {E : Value → Shared → Prop} {s : Shared} {h₀ : Heap} {L d x : Addr} {m : Str → Option Value} {news sym full : Ledger} {G : Ledger → Ledger} {o : Obj} {M : List (Int × Int)} {t : TT} {Q : Value → Shared → Prop}
theorem i_empty (h : o.IsDictOf (intKind prog w) []) : IObj prog w o [] := ⟨[], h, .nil⟩
theorem tab_found_none {a c : Int} {ta tc : Tok} (cx : Cx w A h₀ L m s news 12 400) (hG : ∀ tl, Mv tl sym news (G tl)) (hx : Tab w news x t) (hf : t.Fit) (hn : t.find a c = none)
   (ret : ∀ h' tk' tl, Above news tl → Fr h₀ L h' m → News h₀ L h' (G tl) → Q .none { s with heap := h', toks := tk' }) :
   wpAny (model Challenge.rw_pb0171_01.row.toRowW.prog w) A (call (.ref 285) [.ref x, .int a ta, .int c tc]) Q E s := by
  refine tab_found cx hG hx hf fun v h' tk' tl hd => ?_
  rw [hn] at hd
  cases hd
  exact ret h' tk' tl
theorem i_in_some {k y : Int} {u : Tok} (N : News h₀ L s.heap full) (lo : (d == sysModules) = false) (hm : (d, o) ∈ full) (g : IObj prog w o M) (hk : get M k = some y) (h : ∀ tk, Q (.bool true) { s with toks := tk }) :
    wpAny (model prog w) A (compareOp .In (.int k u) (.ref d)) Q E s := i_in N lo hm g (by rw [hk]; exact h)
theorem i_in_none {k : Int} {u : Tok} (N : News h₀ L s.heap full) (lo : (d == sysModules) = false) (hm : (d, o) ∈ full) (g : IObj prog w o M) (hk : get M k = none) (h : ∀ tk, Q (.bool false) { s with toks := tk }) :
    wpAny (model prog w) A (compareOp .In (.int k u) (.ref d)) Q E s := i_in N lo hm g (by rw [hk]; exact h)
end
theorem reg49 : True := by
  k_with "compareOp In int ref" => (k_here; k_dflt (first | (refine' i_in_some ?zN ?zlo ?zhm ?zg ?zhk ?_; (case zhk => assumption); (case zlo => assumption); (case zN => k_asm); (case zhm => k_mem); (case zg => assumption)) | (refine' i_in_none ?zN ?zlo ?zhm ?zg ?zhk ?_; (case zhk => assumption); (case zlo => assumption); (case zN => k_asm); (case zhm => k_mem); (case zg => assumption)) | fail "mine"); intros)
  k_with "getMethod ref" => (k_here; (with_reducible show wpAny _ _ (getMethod (Value.ref _) (Str.ofString "told") _) _ _ _); k_dflt (refine' tab_method (D := 0) (U := 0) ?zcx ?zhx ?_; (case zcx => walk_at "CX"); (case zhx => refine Tab.but (by assumption) ?_; walk_at "SUBC")))
  k_with "getAttr ref" => (k_here; (with_reducible show wpAny _ _ (getAttr (Value.ref _) (Str.ofString "is_second") _) _ _ _); k_dflt (refine' tab_second (D := 0) (U := 0) ?zcx ?zhx ?_; (case zcx => walk_at "CX"); (case zhx => refine Tab.but (by assumption) ?_; walk_at "SUBC"); intros))
  k_with "call ref" => (k_here; (with_reducible show wpAny _ _ (call (Value.ref (TT.toldAt _)) [Value.ref _]) _ _ _); k_dflt (refine' tab_told ?zcx ?zhG ?zhx ?zhf ?_; (case zcx => walk_at "CX"); (case zhG => intro tl'; walk_at "MV"); (case zhx => refine Tab.but (by assumption) ?_; walk_at "SUBC"); (case zhf => assumption); intros))
  k_with "call ref" => (k_here; (with_reducible show wpAny _ _ (call (Value.ref 217) [Value.ref _, Value.ref _]) _ _ _); k_dflt (refine' tab_cut ?zcx ?zhG ?zhx ?zhf ?zhd ?_; (case zcx => walk_at "CX"); (case zhG => intro tl'; walk_at "MV"); (case zhx => refine Tab.but (by assumption) ?_; walk_at "SUBC"); (case zhf => assumption); (case zhd => first | (refine IDict.mono (by assumption) ?_; walk_at "SUB") | exact ⟨_, by k_mem, i_empty (by assumption), by assumption⟩ | exact ⟨_, by k_mem, by assumption, by assumption⟩ | fail "mine"); intros))
  k_with "call ref" => (k_here; (with_reducible show wpAny _ _ (call (Value.ref 285) [Value.ref _, Value.int _ _, Value.int _ _]) _ _ _); k_dflt (refine' tab_found ?zcx ?zhG ?zhx ?zhf ?_; (case zcx => walk_at "CX"); (case zhG => intro tl'; walk_at "MV"); (case zhx => refine Tab.but (by assumption) ?_; walk_at "SUBC"); (case zhf => assumption); intros))
  k_with "call ref" => (k_here; (with_reducible show wpAny _ _ (call (Value.ref 285) [Value.ref _, Value.int _ _, Value.int _ _]) _ _ _); k_dflt (refine' tab_found_none ?zcx ?zhG ?zhx ?zhf ?zhn ?_; (case zcx => walk_at "CX"); (case zhG => intro tl'; walk_at "MV"); (case zhx => refine Tab.but (by assumption) ?_; walk_at "SUBC"); (case zhf => assumption); (case zhn => assumption); intros))
  trivial
/-! T4 -/
/-! the tables drawn -/
theorem putAll_keys {ks : List (Int × Int)} (h : ∀ k ∈ ks, 0 ≤ k.1 ∧ k.1 < 10 ∧ 0 ≤ k.2) : ∀ k v, get (putAll [] ks) k = some v → (0 ≤ k ∧ k < 10) ∧ 0 ≤ v := fun k v e => by
  rcases putAll_sub _ _ _ _ e with e | e
  · cases e
  · have := h _ e
    simp only at this
    exact ⟨⟨this.1, this.2.1⟩, this.2.2⟩
theorem getD_nonneg {M : List (Int × Int)} (h : ∀ k v, get M k = some v → 0 ≤ v) (k : Int) : 0 ≤ (get M k).getD 0 := by
  cases hg : get M k with
  | none => exact Int.le_refl _
  | some v => exact h k v hg
theorem flatten_length (n : Nat) : ∀ R : List (List (Int × Int)), (∀ row ∈ R, row.length = n) → R.flatten.length = R.length * n
  | [], _ => by simp
  | r :: t, h => by
    rw [List.flatten_cons, List.length_append, flatten_length n t fun row hr => h row (.tail _ hr), h r (.head _), List.length_cons, Nat.succ_mul, Nat.add_comm]
noncomputable def TT.Ready (t : TT) : Prop := t.Fit ∧ t.Sec ∧ t.Drawn
theorem drawn_g {P : PT} {b : Bool} (hk : KeysOk P) (hl : P.length < 64) : (TT.gly P (b || moves P)).Ready :=
  have d : (TT.gly P (b || moves P)).Drawn := hk
  ⟨⟨hl, d.small⟩, fun e => by rw [e]; simp, d⟩
theorem drawn_c {ns : List Int} {ks ks2 : List (Int × Int)} {R : List (List (Int × Int))} {b : Bool} (h1 : ns.Pairwise (· < ·)) (h2 : ∀ g ∈ ns, 0 ≤ g ∧ g < 10) (h3 : ns.length ≤ 10) (h4 : ∀ k ∈ ks, 0 ≤ k.1 ∧ k.1 < 10 ∧ 1 ≤ k.2 ∧ k.2 ≤ 2) (h5 : ks.length ≤ 10) (h6 : ∀ k ∈ ks2, 0 ≤ k.1 ∧ k.1 < 10 ∧ k.2 = 1) (h7 : ks2.length ≤ 10) (h8 : R.length = 3) (h9 : ∀ row ∈ R, row.length = 2) :
    (TT.cla ns (putAll [] ks) (putAll [] ks2) R (b || movesL R.flatten)).Ready := by
  have k1 := putAll_keys (ks := ks) fun k hk => by have := h4 k hk; omega
  have k2 := putAll_keys (ks := ks2) fun k hk => by have := h6 k hk; omega
  have l1 := putAll_length ks []
  have l2 := putAll_length ks2 []
  have l3 := flatten_length 2 R h9
  simp only [List.length_nil] at l1 l2
  exact ⟨⟨by omega, h1, by omega, by omega, getD_nonneg fun k v e => (k1 k v e).2, getD_nonneg fun k v e => (k2 k v e).2, by omega, fun row hr => by have := h9 row hr; omega, by omega⟩, fun e => by rw [e]; simp,
    h1, h2, fun k v e => (k1 k v e).1, putAll_nodup _ _ .nil, fun k v e => (k2 k v e).1, putAll_nodup _ _ .nil⟩
noncomputable def Tabs (w : World) (news : Ledger) (its : Array Value) : Prop := ∀ (i : Nat) (v : Value), its[i]? = some v → ∃ x t, v = .ref x ∧ Tab w news x t ∧ t.Ready
theorem tabs_two {w : World} {news : Ledger} {x1 x2 : Addr} {t1 t2 : TT} (h1 : Tab w news x1 t1) (h2 : Tab w news x2 t2) (r1 : t1.Ready) (r2 : t2.Ready) : Tabs w news #[.ref x1, .ref x2] := fun i v e => by
  match i with
  | 0 => simp at e; exact ⟨x1, t1, e.symm, h1, r1⟩
  | 1 => simp at e; exact ⟨x2, t2, e.symm, h2, r2⟩
  | n + 2 => simp at e
theorem way_take (T U : List (Int × Int)) {i : Nat} {k x : Int} (e : T[i]? = some (k, x)) : wayL (T.take (i + 1)) U = wayL (T.take i) U ++ ((get U x).map fun u => (k, u)).toList := by
  unfold wayL
  rw [List.take_add_one, e, List.filterMap_append]
  cases hg : get U x <;> simp [hg]
theorem wayL_length (T U : List (Int × Int)) : (wayL T U).length ≤ T.length := List.length_filterMap_le _ _
theorem off_three {C : Addr} {a b c : Ledger} (h1 : ∀ p ∈ a, p.1 ≠ C) (h2 : ∀ p ∈ b, p.1 ≠ C) (h3 : ∀ p ∈ c, p.1 ≠ C) : ∀ p ∈ a ++ (b ++ c), p.1 ≠ C := fun p hp => by
  simp only [List.mem_append] at hp
  rcases hp with h | h | h
  · exact h1 p h
  · exact h2 p h
  · exact h3 p h
/-! T5 -/
theorem Comp.way {W T U : List (Int × Int)} {lo hi lo2 hi2 : Int} (h : Comp W T U) (hT : Way lo hi T) (hU : Way lo2 hi2 U) : Way lo2 hi2 W := ⟨h.inj hT.inj hU.inj, fun k y e => by
  rw [h, Option.bind_eq_some_iff] at e
  obtain ⟨x, _, e⟩ := e
  exact hU.vals _ _ e, hU.lo0, hU.hi1⟩
theorem idM_take {i : Nat} (h : i < 10) : idM.take (i + 1) = idM.take i ++ [(0 + (i : Int), 0 + (i : Int))] := by
  unfold idM
  rw [← List.map_take, ← List.map_take, List.take_range, List.take_range, Nat.min_eq_left (by omega), Nat.min_eq_left (by omega), List.range_succ, List.map_append]
  simp
theorem idM_end : idM.take 10 = idM := by decide +kernel
theorem idM_len : idM.length = 10 := by decide +kernel
/-- what the turn needs of its table -/
structure Facts (t : TT) (T U W : List (Int × Int)) : Prop where
  fit : t.Fit
  fitT : (t.cut T).Fit
  fitTU : ((t.cut T).cut U).Fit
  fitW : (t.cut W).Fit
  fitI : (t.cut (putAll [] idM)).Fit
  fitE : (t.cut []).Fit
  comp : ((t.cut T).cut U).told = (t.cut W).told
  second : (t.cut T).second = t.second
  same : (t.cut (putAll [] idM)).told = t.told
  none34 : (t.cut []).find 3 4 = none
  out : ∀ g, g < 20 → (t.cut T).find g 20 = none
  at_ : ∀ a c y1 y2, get T a = some y1 → get T c = some y2 → valD ((t.cut T).find y1 y2) = valD (t.find a c)
theorem facts_of {t : TT} {T U W : List (Int × Int)} (h : t.Ready) (hT : Way 20 31 T) (hU : Way 50 61 U) (hW : Comp W T U) : Facts t T U W := by
  obtain ⟨f, s, d⟩ := h
  exact ⟨f, f.cut hT, (f.cut hT).cut hU, f.cut (hW.way hT hU), f.cut idM_way, f.cut nil_way, TT.cut_comp f s hT hU hW, TT.cut_second f s hT, TT.cut_id f s d idM_get, TT.cut_empty f, fun g hg => TT.cut_none f hT hg, fun a c y1 y2 h1 h2 => by rw [TT.cut_find f hT h1 h2]⟩
theorem Tabs.mono {w : World} {news news' : Ledger} {its : Array Value} (h : Tabs w news its) (s : ∀ p ∈ news, p ∈ news') : Tabs w news' its := fun i v e => by
  obtain ⟨x, t, e, ht, r⟩ := h i v e
  exact ⟨x, t, e, ht.mono s, r⟩
theorem sub_turn {a b c d : Addr × Obj} {T1 T2 full : Ledger} (h : ∀ p ∈ b :: c :: d :: T2, p ∈ full) (m : a ∈ T2) (s : ∀ p ∈ T1, p ∈ T2) : ∀ p ∈ a :: b :: c :: d :: T1, p ∈ full := fun p hp => by
  simp only [List.mem_cons] at hp
  rcases hp with rfl | rfl | rfl | rfl | hp
  · exact h _ (.tail _ (.tail _ (.tail _ m)))
  · exact h _ (.head _)
  · exact h _ (.tail _ (.head _))
  · exact h _ (.tail _ (.tail _ (.head _)))
  · exact h _ (.tail _ (.tail _ (.tail _ (s p hp))))
theorem off_turn {C : Addr} {o o' : Obj} {c d : Addr × Obj} {l : Ledger} {I : Addr} (h : ∀ p ∈ (C, o) :: c :: d :: l, p.1 ≠ I) : ∀ p ∈ (C, o') :: c :: d :: l, p.1 ≠ I := fun p hp => by
  rcases List.mem_cons.mp hp with rfl | hp
  · exact h (C, o) (.head _)
  · exact h p (.tail _ hp)
theorem off_cons {C D : Addr} {o oC : Obj} {l base : Ledger} (h : AllLt D base) (m : (C, oC) ∈ base) (k : ∀ p ∈ l, p.1 ≠ C) : ∀ p ∈ (D, o) :: l, p.1 ≠ C := fun p hp => by
  rcases List.mem_cons.mp hp with rfl | hp
  · exact Nat.ne_of_gt (allLt_mem h (C, oC) m)
  · exact k p hp
section
variable {prog : Program} {w : World} {A : Around} {E : Value → Shared → Prop} {s : Shared} {Q : Value → Shared → Prop}
theorem ne_boolE {a b : Bool} (e : a = b) (h : Q (.bool false) s) : wpAny (model prog w) A (compareOp .NotEq (.bool a) (.bool b)) Q E s := by
  subst e
  refine PyProof.Rows.ne_bool ?_
  simpa using h
end
theorem reg50 : True := by
  k_with "compareOp NotEq" => (k_here; k_dflt (refine' ne_same ?zN ?zhv ?zs1 ?zhu ?zs2 ?zok ?zhe ?zhc ?_; (case zN => k_asm); (case zhv => assumption); (case zhu => assumption); (case zhe => first | assumption | rfl); (case zok => first | exact ok_tt _ | exact ok_val _); (case zhc => ke_room); (case zs1 => walk_at "SUBC"); (case zs2 => walk_at "SUBC")))
  k_with "compareOp NotEq bool bool" => (k_here; k_dflt (refine' ne_boolE ?ze ?_; (case ze => assumption)))
  trivial
/-! T6 -/
section
variable {w : World} {A : Around} {h₀ : Heap} {L : Addr} {m : Str → Option Value} {s : Shared} {news : Ledger} {D U : Nat} {x : Addr} {t : TT} {E : Value → Shared → Prop}
theorem tab_callWith {pos : Pos} {env : Env} {Q : Value → Shared → Prop} (cx : Cx w A h₀ L m s news D U) (h : wpAny (model Challenge.rw_pb0171_01.row.toRowW.prog w) A (call (.ref t.toldAt) [.ref x]) Q E s) :
    wpAny (model Challenge.rw_pb0171_01.row.toRowW.prog w) A (callWith pos (.ref t.toldAt) [.ref x] (backTo pos (starEach [] env)) []) Q E s := by
  cases t with
  | gly P b =>
    dsimp only [TT.toldAt] at h ⊢
    walk_at "OPEN"
    walk1
    exact h
  | cla ns F S R b =>
    dsimp only [TT.toldAt] at h ⊢
    walk_at "OPEN"
    walk1
    exact h
end
theorem reg51 : True := by
  k_with "callWith ref cons nil" => (k_here; (with_reducible show wpAny _ _ (callWith _ (Value.ref (TT.toldAt _)) [Value.ref _] (backTo _ (starEach [] _)) []) _ _ _); k_dflt (refine' tab_callWith (D := 0) (U := 0) ?zcx ?_; (case zcx => walk_at "CX")))
  trivial
local macro_rules | `(tactic| k_qdec) => `(tactic| decide +kernel)
theorem main : PySem.Challenge.rw_pb0171_01.Holds := hd.2 (by
  delta hd
  refine up ?_
  k_go0
  (all_goals try k_fold)
  k_steps
  rename_i oc oF oT hoc hoF hoT X0 qk ek D0 ws h1 F1 N1 hi1 hc1 hl1 y1 y2 y3
  obtain ⟨ns1, hi1, hl40⟩ : ∃ ns', IntsAre ws ns' ∧ ns'.length ≤ 40 := ⟨_, hi1, by omega⟩
  have hwl := hi1.length
  k_dflt (refine' src_grow (by assumption) (by assumption) (iters_list rfl (by assumption) (.head _)) ?sz (.head _) (fun i ys tl => tl = [] ∧ IntsAre ys (ns1.take i)) ?h0 ?turn ?fin)
  case sz => rw [sizeLine_eq]; simp only [List.size_toArray]; omega
  case h0 => exact ⟨rfl, .nil⟩
  case turn =>
    rintro i ys tl v I oI C oC D m₂ h tk E' hlt ha ⟨rfl, hr⟩ hP hC hx F' N' off ne
    obtain ⟨k, tk', e1, rfl⟩ := intsAt hi1 hP
    simp only [List.nil_append] at N' off
    k_steps
    refine grow_end (tl := []) .nil ha ⟨rfl, ?_⟩
    rw [List.take_add_one, e1]
    exact intsSnoc hr
  case fin =>
    rintro g ys tl ha ⟨rfl, hr⟩
    rw [List.take_of_length_le (by simp [hwl])] at hr
    simp only [List.nil_append]
    k_steps
    rename_i V hV tkV tlV x1 x2 nV P ns ks ks2 R b oPV aV aG aC aK aP64 aS aR aL10 aF aFl aS2 aSl aR3 aR2 aPen haV hA tkA hB tkB tA tB tC R' rk hC tkC ys hk hx hi' hc mk gnN gnA gnI DT T oPT hT tkT tlT nuT idT penT haT oDT mT gT loT ngT nlT hD oD dD tkD DV hDV y1 y2 y3 y4 y5 y6 y7 lV BV hBV tkBV vsV cV hiV b1 b2 b3 b4 b5 b6 b7 b8 lB hnB DU U oPU hU tkU tlU nuU idU penU haU oDU mU gU loU ngU nlU hW oW F' N' dW
    have offC := off_three (above_ne (o := oT) haU (by k_mem)) (above_ne (o := oT) haT (by k_mem)) (above_ne (o := oT) haV (by k_mem))
    have tabs := tabs_two (Tab.mono (t := .gly _ _) aG (news' := tlU ++ (tlT ++ tlV)) fun p hp => List.mem_append_right _ (List.mem_append_right _ hp)) (Tab.mono (t := .cla _ _ _ _ _) aC (news' := tlU ++ (tlT ++ tlV)) fun p hp => List.mem_append_right _ (List.mem_append_right _ hp)) (drawn_g aK aP64) (drawn_c aS aR aL10 aF aFl aS2 aSl aR3 aR2)
    have N0 := newsSub (news' := (_, oT) :: (_, oW) :: (_, oD) :: (tlU ++ (tlT ++ tlV))) N' (by walk_at "SUBS")
    have mT0 : (DT, oDT) ∈ tlU ++ (tlT ++ tlV) := by k_mem
    have mU0 : (DU, oDU) ∈ tlU ++ (tlT ++ tlV) := by k_mem
    have mV0 : (V, ({ cls := .type "list", data := .seq #[.ref x1, .ref x2] nV } : Obj)) ∈ tlU ++ (tlT ++ tlV) := by k_mem
    clear N' haU haT haV aV aG aC aK aP64 aS aR aL10 aF aFl aS2 aSl aR3 aR2 aPen penT penU mT mU idT idU lB lV nuT nuU hiV y1 y2 y3 y4 y5 y6 y7 b1 b2 b3 b4 b5 b6 b7 b8 rk hk hx hi' hc mk gnA gnI hnB
    generalize tlU ++ (tlT ++ tlV) = T0 at N0 offC tabs mT0 mU0 mV0
    k_dflt (refine' src_growT (by assumption) (by assumption) (iters_idict rfl (by assumption) loT (.tail _ (.tail _ (.tail _ mT0))) gT) ?sz (.tail _ (.tail _ (.tail _ mT0))) (fun i ys tl => Tups tl ys (wayL (T.take i) U)) ?h0 ?turn ?fin)
    case sz => rw [sizeLine_eq]; omega
    case h0 => exact .nil
    case turn =>
      rintro i ys tl v I oI C oC D m₂ h tk E' hlt ha hr ⟨k, x, t, e1, rfl⟩ hC hx F' N' off ne
      have hgx : get T k = some x := get_of_mem ngT.nd (List.mem_of_getElem? e1)
      have et := way_take T U e1
      cases hg : get U x with
      | none =>
        k_steps
        refine ⟨tl, rfl, ha, ?_⟩
        try dsimp only
        rw [et, hg]
        simpa using hr
      | some u =>
        k_steps
        (try walk_at "CompEnd")
        walk_at "GROW"
        try dsimp only
        rw [et, hg]
        exact tupsSnoc (hr.mono (by walk_at "SUB")) ⟨_, _, _, _, rfl, by k_mem⟩
    case fin =>
      intro g2 ys2 tl2 ha2 hr2
      rw [List.take_length] at hr2
      have hl2 := hr2.length
      have hw2 := wayL_length T U
      k_steps
      rename_i DL hL tkL oL DW oDW hW2 tkW loW gW xLW lW hZ FZ NZ
      have hcomp : Comp (putAll [] (wayL T U)) T U := way_comp ngT.nd
      have wayT := ngT.way (by decide) (by decide)
      have wayU := ngU.way (by decide) (by decide)
      have N1 := newsSub (news' := (_, oT) :: (_, oW) :: (_, oD) :: ((DW, oDW) :: T0)) NZ (by walk_at "SUBS")
      have offW := off_cons (o := oDW) (oC := oT) lW (by k_mem) offC
      have tabs1 := tabs.mono (fun p hp => List.mem_cons_of_mem (DW, oDW) hp)
      have mW1 : (DW, oDW) ∈ (DW, oDW) :: T0 := .head _
      have mT1 : (DT, oDT) ∈ (DW, oDW) :: T0 := .tail _ mT0
      have mU1 : (DU, oDU) ∈ (DW, oDW) :: T0 := .tail _ mU0
      have mV1 : (V, ({ cls := .type "list", data := .seq #[.ref x1, .ref x2] nV } : Obj)) ∈ (DW, oDW) :: T0 := .tail _ mV0
      have tabFacts : ∀ t, t.Ready → Facts t T U (putAll [] (wayL T U)) := fun t h => facts_of h wayT wayU hcomp
      clear tabs hcomp wayT wayU ngT ngU NZ offC lW hr2 ha2 hl2 hw2 mT0 mU0 mV0 oL xLW
      generalize putAll [] (wayL T U) = W at gW tabFacts
      generalize (DW, oDW) :: T0 = T1 at N1 offW tabs1 mW1 mT1 mU1 mV1
      clear T0 tlV tlT tlU hr
      k_dflt (refine' ForSrc.of (σ := Obj) (fun c => (_, c) :: (_, oW) :: (_, oD) :: T1) (fun _ => []) [Str.ofString "told", Str.ofString "first", Str.ofString "second", Str.ofString "due", Str.ofString "own"] (fun _ c => ∃ y, c.data = .cell y) oT (by assumption) N1 (iters_list rfl (by assumption) (.tail _ (.tail _ (.tail _ mV1)))) ?hS ?hk ?h0 ?turn ?done)
      case hS => exact fun _ _ _ => .tail _ (.tail _ (.tail _ mV1))
      case hk => kst_all
      case h0 => exact ⟨_, hoT⟩
      case turn =>
        rintro i oc1 v u h tk I oI hlt ⟨cy, hcy⟩ hPv F' N' off
        obtain ⟨x, t, rfl, htab, hready⟩ := tabs1 i v hPv
        obtain ⟨fit, fitT, fitTU, fitW, fitI, fitE, comp, second, same, none34, out, at1⟩ := tabFacts t hready
        clear tabs1 tabFacts
        k_steps
        rename_i vD hD2 tkD2 tlD datD aD hX xX hX2 tkX tlX tabX aX hO oCut F4 N4 dCut x1' h4 tk5 tl3 tab1 a3' F3 N3 v1 h3 tk4 tl2 dat1 a2' F2 N2 x0 h2 tk3 tl1 tab0 a1' F1 N1' v0 h1' tk2 tl0 dat0 a0' F0 N0' tkp tkq hR tkR tA2 tB2 tC2 rng FR NR upR
        have NL := newsSub (news' := (_, oCut) :: (_, oW) :: (_, oD) :: ((I, oI) :: (tlX ++ (tlD ++ T1)))) NR (by walk_at "SUBS")
        have tabX2 : Tab _ ((I, oI) :: (tlX ++ (tlD ++ T1))) xX (t.cut T) := tabX.but (by walk_at "SUBC")
        have datD2 : DatIn ((I, oI) :: (tlX ++ (tlD ++ T1))) vD t.told := datBut (by walk_at "SUBC") datD
        have htab2 : Tab _ ((I, oI) :: (tlX ++ (tlD ++ T1))) x t := htab.mono (by walk_at "SUB")
        have mI2 : (I, oI) ∈ (I, oI) :: (tlX ++ (tlD ++ T1)) := .head _
        have sub12 : ∀ p ∈ T1, p ∈ (I, oI) :: (tlX ++ (tlD ++ T1)) := by walk_at "SUB"
        have mW2 := sub12 _ mW1
        have mT2 := sub12 _ mT1
        have mU2 := sub12 _ mU1
        clear tabX datD htab aD aX F4 N4 tab1 a3' F3 N3 dat1 a2' F2 N2 tab0 a1' F1 N1' dat0 a0' F0 N0' NR mW1 mT1 mU1 comp second upR
        generalize (I, oI) :: (tlX ++ (tlD ++ T1)) = T2 at NL tabX2 datD2 htab2 mI2 sub12 mW2 mT2 mU2
        clear tlX tlD
        k_dflt (refine' ForSrc.of (σ := Unit) (fun _ => (_, oCut) :: (_, oW) :: (_, oD) :: T2) (fun _ => []) [Str.ofString "second", Str.ofString "due"] (fun _ _ => True) () (by assumption) NL (iters_range (n := 10) rfl (by assumption) (by decide) (by decide)) ?hS ?hk ?h0 ?turn2 ?done2)
        case hS => exact fun _ _ _ => trivial
        case hk => kst_all
        case h0 => trivial
        case turn2 =>
          rintro i1 ⟨⟩ v u1 h tk I1 oI1 hlt1 - ⟨ta, rfl⟩ F' N' off1
          try dsimp only at N' off1 F'
          k_steps
          rename_i FO NO h2 tk2 tA3 tB3 tC3 rng2 FI NI upI
          k_dflt (refine' ForSrc.of (σ := Unit) (fun _ => (I1, oI1) :: (_, oCut) :: (_, oW) :: (_, oD) :: T2) (fun _ => []) [Str.ofString "due"] (fun _ _ => True) () (by assumption) NI (iters_range (n := 10) rfl (by assumption) (by decide) (by decide)) ?hS ?hk ?h0 ?turn3 ?done3)
          case hS => exact fun _ _ _ => trivial
          case hk => kst_all
          case h0 => trivial
          case turn3 =>
            rintro i2 ⟨⟩ v u2 h3 tk3 I2 oI2 hlt2 - ⟨tb, rfl⟩ F' N' off2
            try dsimp only at N' off2 F'
            cases hg1 : get T (0 + (i1 : Int)) with
            | none =>
              k_steps
              refine' fpost_next () (by assumption) (by assumption) ?sub ?off ?hk ?hr ?j
              case j => trivial
              case sub => walk_at "SUB"
              case off => assumption
              case hk => kst_all
              case hr => walk_at "FSAME"
            | some y1 =>
              cases hg2 : get T (0 + (i2 : Int)) with
              | none =>
                k_steps
                refine' fpost_next () (by assumption) (by assumption) ?sub ?off ?hk ?hr ?j
                case j => trivial
                case sub => walk_at "SUB"
                case off => assumption
                case hk => kst_all
                case hr => walk_at "FSAME"
              | some y2 =>
                have hat := at1 _ _ _ _ hg1 hg2
                k_steps
                refine' fpost_next () (by assumption) (by assumption) ?sub ?off ?hk ?hr ?j
                case j => trivial
                case sub => walk_at "SUB"
                case off => assumption
                case hk => kst_all
                case hr => walk_at "FSAME"
          case done3 =>
            rintro ⟨⟩ u2 h3 tk3 - F' N'
            k_steps
            refine' fpost_next () (by assumption) (by assumption) ?sub ?off ?hk ?hr ?j
            case j => trivial
            case sub => walk_at "SUB"
            case off => assumption
            case hk => kst_all
            case hr => walk_at "FSAME"
        case done2 =>
          rintro ⟨⟩ u1 h tk - F' N'
          try dsimp only at N' F'
          k_steps
          k_dflt (refine' src_growT (base := (_, oCut) :: (_, oW) :: (_, oD) :: T2) (by assumption) (by assumption) (iters_range (n := 10) rfl (by assumption) (by decide) (by decide)) ?sz ?hS (fun _ ys _ => ys = []) ?h0 ?turn ?fin)
          case sz => exact Nat.le_of_ble_eq_true rfl
          case hS => trivial
          case h0 => rfl
          case turn =>
            rintro i ys tl v I1 oI1 C oC D m₂ h2 tk2 E' hlt ha rfl ⟨ti, rfl⟩ hC hx F' N' off1 ne
            have hout := out (0 + (i : Int)) (by omega)
            k_steps
            walk_at "GROW"
            rfl
          case fin =>
            rintro g2 ys tl ha rfl
            k_steps
            k_dflt (refine' src_grow (by assumption) (by assumption) (iters_range (n := 10) rfl (by assumption) (by decide) (by decide)) ?sz ?hS (fun i ys tl => Tups tl ys (idM.take i)) ?h0 ?turn ?fin)
            case sz => exact Nat.le_of_ble_eq_true rfl
            case hS => trivial
            case h0 => exact .nil
            case turn =>
              rintro i ys2 tl2 v I1 oI1 C oC D2 m₂ h2 tk2 E' hlt ha2 hr2 ⟨ti, rfl⟩ hC hx F' N' off1 ne
              k_steps
              (try walk_at "CompEnd")
              walk_at "GROW"
              try dsimp only
              rw [idM_take hlt]
              exact tupsSnoc (hr2.mono (by walk_at "SUB")) ⟨_, _, _, _, rfl, by k_mem⟩
            case fin =>
              rintro g2 ys2 tl2 ha2 hr2
              rw [idM_end] at hr2
              have hl2 := hr2.length
              have hlI := idM_len
              k_steps
              refine' fpost_next oCut (by assumption) (by assumption) ?sub ?off ?hk ?hr ?j
              case j => exact ⟨_, dCut⟩
              case sub => exact sub_turn (by walk_at "SUBS") mI2 sub12
              case off => exact off_turn off
              case hk => kst_all
              case hr => walk_at "FSAME"
      case done =>
        rintro oc1 u h tk ⟨cy, hcy⟩ F' N'
        k_steps)
end Mine
set_option maxRecDepth 100000 in
set_option maxHeartbeats 8000000 in
theorem PySem.Challenge.cw_pb0171_01_holds : PySem.Challenge.rw_pb0171_01.Holds :=
  Mine.main
