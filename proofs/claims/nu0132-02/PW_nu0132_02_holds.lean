import PyProof.Rows.All
import Wide.All
import OpenK.AllK
import Wide.FinOn
import Lean
import PySem.Challenge.RW_nu0132_02
set_option Elab.async false
set_option compiler.extract_closed false
set_option maxRecDepth 100000
namespace Mine
open PySem PySem.W PyProof.Rows
theorem said : PySem.Challenge.rw_nu0132_02.wellSaid = true := by kernel_rfl
local macro_rules | `(tactic| o_law) => `(tactic| (refine PySem.W.holds_law said fun _ => ?_))
local macro_rules
  | `(PySem.W.holds_open $args*) => do
    let h ← `((by intro w; rw [PySem.W.Fast.te14364793385576792824, PySem.W.Fast.te4187177175401517315]; unfold openEnds fencedOpening topFrom; rw [PySem.W.Fast.te10274390034422433532, PySem.W.Fast.te14082659384304107361]; kernel_rfl))
    let mut as := #[]
    for a in args do
      if a.raw.isOfKind ``Lean.Parser.Term.syntheticHole then
        if a.raw[1].getId == `hl then as := as.push h else as := as.push a
      else as := as.push a
    `(_root_.PySem.W.holds_open $as*)
set_option maxHeartbeats 0 in
open_top hd for PySem.Challenge.rw_nu0132_02
end Mine
namespace Mine
open PySem PySem.W PySem.Calls PyProof.Rows
noncomputable section
inductive V where
  | none
  | bool (b : Bool)
  | int (i : Int)
  | byt (b : List UInt8)
  | str (x : Str)
  | ref (a : Addr)
def VR : V → Value → Prop
  | .none, v => v = .none
  | .bool b, v => v = .bool b
  | .int i, v => ∃ t, v = .int i t
  | .byt b, v => ∃ t, v = .bytes b.toArray t
  | .str x, v => ∃ t, v = .str x t
  | .ref a, v => v = .ref a
def VRs : List V → List Value → Prop
  | [], [] => True
  | v :: vs, x :: xs => VR v x ∧ VRs vs xs
  | _, _ => False
inductive O where
  | list (vs : List V)
  | tup (vs : List V)
  | dict (ks : List Str) (vs : List V)
  | map (ks : List Str) (vs : List V)
  | inst (C dx : Addr)
  | cell (v : V)
  | lit (l : Addr) (i : Nat)
  | rit (x left : Int)
  | rng (n : Int)
abbrev Store := List (Addr × O)
def ER (P : Params) : List Str → List V → List DictEntry → Prop
  | [], [], [] => True
  | k :: ks, v :: vs, e :: es => (∃ t, e.key = .str k t) ∧ e.hash = PyData.keyHash P k ∧ VR v e.val ∧ ER P ks vs es
  | _, _, _ => False
abbrev tupO (xs : List Value) : Obj := { cls := .type "tuple", data := .seq xs.toArray }
def OR (pg : Program) (w : World) : O → Obj → Prop
  | .list vs, o => ∃ xs n, o = listOf xs.toArray n ∧ VRs vs xs
  | .tup vs, o => ∃ xs, o = tupO xs ∧ VRs vs xs
  | .dict ks vs, o => ∃ es n, o = dictOf es n ∧ ER w.params ks vs es
  | .map ks vs, o => ∃ kvs, o.IsDictOf (strKind pg w) kvs ∧ kvs.map (·.1) = ks ∧ VRs vs (kvs.map (·.2))
  | .inst C dx, o => o = instObj C dx
  | .cell v, o => ∃ x, o.data = .cell (some x) ∧ VR v x
  | .lit l i, o => o.cls = .type "list_iterator" ∧ o.data = .fields #[.ref l, .int i 0]
  | .rit x left, o => o = { cls := .type "range_iterator", dict := none, data := .fields #[rawInt x, rawInt left, rawInt 1], slots := #[] }
  | .rng n, o => ∃ t u v, o = { cls := .type "range", dict := none, data := .fields #[.int 0 t, .int n u, .int 1 v], slots := #[] }
def NR (pg : Program) (w : World) : Store → List (Addr × Obj) → Prop
  | [], [] => True
  | p :: σ, q :: ns => p.1 = q.1 ∧ OR pg w p.2 q.2 ∧ NR pg w σ ns
  | _, _ => False
def posOf : List (Str × NameKind) → Str → Option Nat
  | [], _ => none
  | p :: r, x => if p.1 = x then some 0 else (posOf r x).map (· + 1)
def nth {α : Type} : List α → Nat → Option α
  | [], _ => none
  | x :: _, 0 => some x
  | _ :: r, n + 1 => nth r n
def setN {α : Type} : List α → Nat → α → List α
  | [], _, _ => []
  | _ :: r, 0, y => y :: r
  | x :: r, n + 1, y => x :: setN r n y
def LR (names : List (Str × NameKind)) (vals : List (Option V)) (m : Str → Option Value) : Prop :=
  ∀ i x v, posOf names x = some i → nth vals i = some (some v) → ∃ y, m x = some y ∧ VR v y
structure Sx where
  prog : Program
  K : Params → Frag
  p : Program
  loose : List Str
structure Dx where
  w : World
  mg : Str → Option Value
  mb : Str → Option Value
  ls : Addr
  svs : List Value
  ns : List Int
  hns : IntsAre svs ns
  gens : Array GenState
  drawn : Drawn
  os : OsState
structure Base (S : Sx) (D : Dx) (h : Heap) : Prop where
  inn : (S.K D.w.params).In h
  top : TopRead S.p S.loose D.mg D.mb h
  scr : h.IsList D.ls D.svs.toArray
  seer : h.NoSeer
structure FS (S : Sx) (D : Dx) (h₀ : Heap) (L : Addr) (m : Str → Option Value) (σ : Store) (s : Shared) : Prop where
  fr : Fr h₀ L s.heap m
  nw : ∃ news, News h₀ L s.heap news ∧ NR S.prog D.w σ news
  nd : (σ.map (·.1)).Nodup
  hi : ∀ a ks vs, (a, O.map ks vs) ∈ σ → 3 < a
  base : Base S D h₀
  fix : s.gens = D.gens ∧ s.drawn = D.drawn ∧ s.os = D.os
def St (S : Sx) (D : Dx) (h₀ : Heap) (env : Env) (l : List (Option V)) (σ : Store) (s : Shared) : Prop :=
  ∃ m, FS S D h₀ env.locals m σ s ∧ LR env.scope.names l m
def Room0 (k : Nat) (A : Around) : Prop := A.handled = none ∧ A.depth + 4 * k ≤ 700 ∧ A.units + 50 * k ≤ 9000 ∧ ∃ l, A.frames = some l
def FrOk (e : Env) : Prop := e.scope.isGenerator = false ∧ e.scope.isCoroutine = false ∧ e.builtins = builtinsNs ∧ e.globals = mainGlobals
def Room (k : Nat) (A : Around) : Prop := Room0 k A ∧ ∃ e l, A.frames = some (e :: l) ∧ FrOk e
def J (S : Sx) (D : Dx) (k : Nat) (env : Env) {α β : Type} (R : β → α → Prop) (l : List (Option V)) (σ : Store) (t : Sem α) (P : β → List (Option V) → Store → Prop) : Prop :=
  ∀ (A : Around) (h₀ : Heap) (s : Shared), Room k A → St S D h₀ env l σ s →
    wpAny (model S.prog D.w) A t (fun a s' => ∃ b l' σ', R b a ∧ St S D h₀ env l' σ' s' ∧ P b l' σ') (fun _ _ => False) s
abbrev Ev (S : Sx) (D : Dx) (k : Nat) (env : Env) (l : List (Option V)) (σ : Store) (t : Sem Value) (P : V → List (Option V) → Store → Prop) : Prop := J S D k env VR l σ t P
abbrev Tv (S : Sx) (D : Dx) (k : Nat) (env : Env) (l : List (Option V)) (σ : Store) (t : Sem Bool) (P : Bool → List (Option V) → Store → Prop) : Prop := J S D k env Eq l σ t P
abbrev Evs (S : Sx) (D : Dx) (k : Nat) (env : Env) (l : List (Option V)) (σ : Store) (t : Sem (List Value)) (P : List V → List (Option V) → Store → Prop) : Prop := J S D k env VRs l σ t P
inductive FV where
  | next
  | brk
  | ret (v : V)
def FR : FV → Flow → Prop
  | .next, f => f = .next
  | .brk, f => f = .brk
  | .ret v, f => ∃ x, f = .ret x ∧ VR v x
abbrev Ex (S : Sx) (D : Dx) (k : Nat) (env : Env) (l : List (Option V)) (σ : Store) (t : Sem Flow) (P : FV → List (Option V) → Store → Prop) : Prop := J S D k env FR l σ t P
section
variable {S : Sx} {D : Dx} {h₀ : Heap} {L : Addr} {m : Str → Option Value} {σ : Store} {s : Shared} {env : Env} {l : List (Option V)}
theorem NR.keys {pg : Program} {w : World} : ∀ {σ : Store} {ns : List (Addr × Obj)}, NR pg w σ ns → ns.map (·.1) = σ.map (·.1)
  | [], [], _ => rfl
  | _ :: _, _ :: _, h => by
    obtain ⟨e, _, h⟩ := h
    rw [List.map_cons, List.map_cons, NR.keys h, e]
  | [], _ :: _, h => h.elim
  | _ :: _, [], h => h.elim
theorem NR.mem {pg : Program} {w : World} {a : Addr} {o : O} : ∀ {σ : Store} {ns : List (Addr × Obj)}, NR pg w σ ns → (a, o) ∈ σ → ∃ x, (a, x) ∈ ns ∧ OR pg w o x
  | p :: _, q :: _, h, hm => by
    obtain ⟨e, r, h⟩ := h
    rcases List.mem_cons.mp hm with e' | hm
    · subst e'
      exact ⟨q.2, by rw [show a = q.1 from e]; exact .head _, r⟩
    · obtain ⟨x, hx, hr⟩ := NR.mem h hm
      exact ⟨x, .tail _ hx, hr⟩
  | [], [], _, hm => (nomatch hm)
  | [], _ :: _, h, _ => h.elim
  | _ :: _, [], h, _ => h.elim
theorem NR.snoc {pg : Program} {w : World} {a : Addr} {o : O} {x : Obj} (hr : OR pg w o x) : ∀ {σ : Store} {ns : List (Addr × Obj)}, NR pg w σ ns → NR pg w (σ ++ [(a, o)]) (ns ++ [(a, x)])
  | [], [], _ => ⟨rfl, hr, trivial⟩
  | _ :: _, _ :: _, h => ⟨h.1, h.2.1, NR.snoc hr h.2.2⟩
  | [], _ :: _, h => h.elim
  | _ :: _, [], h => h.elim
inductive At (a : Addr) (o o' : O) : Store → Store → Prop
  | head {r} : At a o o' ((a, o) :: r) ((a, o') :: r)
  | tail {p r r'} : At a o o' r r' → At a o o' (p :: r) (p :: r')
  | app {φ r r'} : At a o o' r r' → At a o o' (φ ++ r) (φ ++ r')
theorem At.mem {a : Addr} {o o' : O} {σ σ' : Store} (h : At a o o' σ σ') : (a, o) ∈ σ := by
  induction h with
  | head => exact .head _
  | tail _ ih => exact .tail _ ih
  | app _ ih => exact List.mem_append_right _ ih
theorem At.keys {a : Addr} {o o' : O} {σ σ' : Store} (h : At a o o' σ σ') : σ'.map (·.1) = σ.map (·.1) := by
  induction h with
  | head => rfl
  | tail _ ih => rw [List.map_cons, List.map_cons, ih]
  | app _ ih => rw [List.map_append, List.map_append, ih]
theorem At.split {a : Addr} {o o' : O} {σ σ' : Store} (h : At a o o' σ σ') : ∃ p q, σ = p ++ (a, o) :: q ∧ σ' = p ++ (a, o') :: q := by
  induction h with
  | head => exact ⟨[], _, rfl, rfl⟩
  | tail _ ih => obtain ⟨p, q, rfl, rfl⟩ := ih; exact ⟨_ :: p, q, rfl, rfl⟩
  | @app φ r r' _ ih => obtain ⟨p, q, rfl, rfl⟩ := ih; exact ⟨φ ++ p, q, by rw [List.append_assoc], by rw [List.append_assoc]⟩
theorem At.hi {a : Addr} {o o' : O} {σ σ' : Store} (hat : At a o o' σ σ') (h : ∀ a ks vs, (a, O.map ks vs) ∈ σ → 3 < a) (h3 : ∀ ks vs, o' = .map ks vs → ∃ ks vs, o = .map ks vs) : ∀ a ks vs, (a, O.map ks vs) ∈ σ' → 3 < a := by
  obtain ⟨p, q, rfl, rfl⟩ := hat.split
  intro b ks vs hm
  rcases List.mem_append.mp hm with hm | hm
  · exact h b ks vs (List.mem_append_left _ hm)
  · rcases List.mem_cons.mp hm with e | hm
    · injection e with e1 e2
      obtain ⟨ks', vs', e3⟩ := h3 ks vs e2.symm
      exact h b ks' vs' (List.mem_append_right _ (by rw [e1, e3]; exact .head _))
    · exact h b ks vs (List.mem_append_right _ (.tail _ hm))
theorem NR.cut {pg : Program} {w : World} {a : Addr} {o : O} {q : Store} : ∀ {p : Store} {ns : List (Addr × Obj)}, NR pg w (p ++ (a, o) :: q) ns →
    ∃ p' x q', ns = p' ++ (a, x) :: q' ∧ OR pg w o x ∧ p'.map (·.1) = p.map (·.1) ∧ q'.map (·.1) = q.map (·.1) ∧ ∀ o' x', OR pg w o' x' → NR pg w (p ++ (a, o') :: q) (p' ++ (a, x') :: q')
  | [], n :: ns, h => by
    obtain ⟨e, r, h⟩ := h
    obtain ⟨b, x⟩ := n
    cases (show a = b from e)
    exact ⟨[], x, ns, rfl, r, rfl, NR.keys h, fun o' x' hr => ⟨rfl, hr, h⟩⟩
  | y :: p, n :: ns, h => by
    obtain ⟨e, r, h⟩ := h
    obtain ⟨p', x, q', rfl, hr, hp, hq, k⟩ := NR.cut h
    exact ⟨n :: p', x, q', rfl, hr, by rw [List.map_cons, List.map_cons, hp, e], hq, fun o' x' hr' => ⟨e, r, k o' x' hr'⟩⟩
  | [], [], h => h.elim
  | _ :: _, [], h => h.elim
theorem FS.tok (h : FS S D h₀ L m σ s) (k : Nat) : FS S D h₀ L m σ { s with toks := k } := ⟨h.fr, h.nw, h.nd, h.hi, h.base, h.fix⟩
theorem FS.ext (h : FS S D h₀ L m σ s) {h' : Heap} (k : Nat) (hk : ∀ b o, s.heap.get? b = some o → h'.get? b = some o) : FS S D h₀ L m σ { s with heap := h', toks := k } :=
  ⟨h.fr.keeps hk, let ⟨n, N, r⟩ := h.nw; ⟨n, N.grown hk, r⟩, h.nd, h.hi, h.base, h.fix⟩
theorem FS.k (h : FS S D h₀ L m σ s) : (S.K D.w.params).In s.heap := h.base.inn.keeps h.fr.keep
theorem FS.add (h : FS S D h₀ L m σ s) {h' : Heap} {a : Addr} {x : Obj} {o : O} (k : Nat) (hr : OR S.prog D.w o x) (ha : h'.get? a = some x) (hn : s.heap.get? a = none)
    (hk : ∀ b o, s.heap.get? b = some o → h'.get? b = some o) (h3 : ∀ ks vs, o = .map ks vs → 3 < a) : FS S D h₀ L m (σ ++ [(a, o)]) { s with heap := h', toks := k } := by
  obtain ⟨n, N, r⟩ := h.nw
  refine ⟨h.fr.keeps hk, ⟨n ++ [(a, x)], fun p hp => ?_, NR.snoc hr r⟩, ?_, fun b ks vs hm => ?_, h.base, h.fix⟩
  · rcases List.mem_append.mp hp with hp | hp
    · exact N.grown hk p hp
    · cases List.mem_singleton.mp hp
      refine ⟨ha, fun e => ?_, ?_⟩
      · obtain ⟨oL, es, ep, hL, _⟩ := h.fr.ns
        rw [← show a = L from e, hn] at hL; cases hL
      · cases q : h₀.get? a with
        | none => rfl
        | some o' => rw [h.fr.keep a o' q] at hn; cases hn
  · rw [List.map_append, List.nodup_append]
    refine ⟨h.nd, by simp, fun b hb c hc e => ?_⟩
    subst e
    cases List.mem_singleton.mp hc
    rw [← NR.keys r] at hb
    obtain ⟨p, hp, e⟩ := List.mem_map.mp hb
    have := (N p hp).1
    rw [e, hn] at this; cases this
  · rcases List.mem_append.mp hm with hm | hm
    · exact h.hi b ks vs hm
    · have e := List.mem_singleton.mp hm
      injection e with e1 e2
      exact e1 ▸ h3 ks vs e2.symm
theorem FS.three (h : FS S D h₀ L m σ s) : 3 < s.heap.objs.size := by
  obtain ⟨o, es, ep, ho, _⟩ := h.base.top.g
  have h1 : 3 < h₀.objs.size := Heap.lt_size ho
  exact Nat.lt_of_lt_of_le h1 (Nat.le_of_lt (Nat.lt_of_le_of_lt h.fr.above h.fr.ns.lt))
theorem push_none (h : Heap) : h.get? h.objs.size = none := by
  cases q : h.get? h.objs.size with
  | none => rfl
  | some o => exact absurd (Heap.lt_size q) (Nat.lt_irrefl _)
theorem FS.push (h : FS S D h₀ L m σ s) {x : Obj} {o : O} (hr : OR S.prog D.w o x) (hf : x.isFreed = false) (k : Nat) : FS S D h₀ L m (σ ++ [(s.heap.objs.size, o)]) { s with heap := s.heap.push x, toks := k } :=
  h.add k hr (Heap.get?_push_size _ hf) (push_none _) (fun _ _ e => Heap.get?_push_of_some _ e) fun _ _ _ => h.three
theorem FS.mem (h : FS S D h₀ L m σ s) {a : Addr} {o : O} (hm : (a, o) ∈ σ) : ∃ x, s.heap.get? a = some x ∧ OR S.prog D.w o x := by
  obtain ⟨n, N, r⟩ := h.nw
  obtain ⟨x, hx, hr⟩ := r.mem hm
  exact ⟨x, (N _ hx).1, hr⟩
theorem nodup_mid {a : Addr} {p q : List Addr} (h : (p ++ a :: q).Nodup) : a ∉ p ∧ a ∉ q := by
  rw [List.nodup_append] at h
  refine ⟨fun hm => h.2.2 a hm a (.head _) rfl, ?_⟩
  exact (List.nodup_cons.mp h.2.1).1
theorem FS.upd (h : FS S D h₀ L m σ s) {h' : Heap} {a : Addr} {o o' : O} {x' : Obj} {σ' : Store} (k : Nat) (hat : At a o o' σ σ') (hr : OR S.prog D.w o' x') (ha : h'.get? a = some x')
    (hk : ∀ b x, b ≠ a → s.heap.get? b = some x → h'.get? b = some x) (h3 : ∀ ks vs, o' = .map ks vs → ∃ ks vs, o = .map ks vs) : FS S D h₀ L m σ' { s with heap := h', toks := k } := by
  obtain ⟨n, N, r⟩ := h.nw
  have hd := h.nd
  have hh := hat.hi h.hi h3
  have ek := hat.keys
  obtain ⟨p, q, rfl, rfl⟩ := hat.split
  obtain ⟨p', x, q', rfl, _, hp, hq, hre⟩ := r.cut
  have nm := N (a, x) (by simp)
  have hd' : (p.map (·.1) ++ a :: q.map (·.1)).Nodup := by simpa using hd
  have ab := nodup_mid hd'
  obtain ⟨oL, es, ep, hL, rest⟩ := h.fr.ns
  refine ⟨⟨⟨oL, es, ep, hk _ _ (Ne.symm nm.2.1) hL, rest⟩, fun b o e => hk b o (fun q => ?_) (h.fr.keep b o e), h.fr.above⟩, ⟨_, fun z hz => ?_, hre o' x' hr⟩, ek ▸ hd, hh, h.base, h.fix⟩
  · rw [q] at e; rw [show h₀.get? a = none from nm.2.2] at e; cases e
  · rcases List.mem_append.mp hz with hz | hz
    · have w := N z (List.mem_append_left _ hz)
      exact ⟨hk _ _ (fun e => ab.1 (by rw [← hp, ← e]; exact List.mem_map_of_mem hz)) w.1, w.2⟩
    · rcases List.mem_cons.mp hz with rfl | hz
      · exact ⟨ha, nm.2⟩
      · have w := N z (List.mem_append_right _ (.tail _ hz))
        exact ⟨hk _ _ (fun e => ab.2 (by rw [← hq, ← e]; exact List.mem_map_of_mem hz)) w.1, w.2⟩
theorem NR.drop {pg : Program} {w : World} : ∀ {σ φ : Store} {ns : List (Addr × Obj)}, NR pg w (σ ++ φ) ns → ∃ a b, ns = a ++ b ∧ NR pg w σ a
  | [], _, ns, _ => ⟨[], ns, rfl, trivial⟩
  | _ :: _, _, n :: ns, h => by
    obtain ⟨a, b, rfl, r⟩ := NR.drop h.2.2
    exact ⟨n :: a, b, rfl, h.1, h.2.1, r⟩
  | _ :: _, _, [], h => h.elim
theorem FS.weak {φ : Store} (h : FS S D h₀ L m (σ ++ φ) s) : FS S D h₀ L m σ s := by
  obtain ⟨n, N, r⟩ := h.nw
  obtain ⟨a, b, rfl, r2⟩ := r.drop
  refine ⟨h.fr, ⟨a, fun p hp => N p (List.mem_append_left _ hp), r2⟩, ?_, fun b ks vs hm => h.hi b ks vs (List.mem_append_left _ hm), h.base, h.fix⟩
  have := h.nd
  rw [List.map_append, List.nodup_append] at this
  exact this.1
theorem nth_set {α : Type} : ∀ {l : List α} {i j : Nat} {y : α}, nth (setN l i y) j = if i = j ∧ i < l.length then some y else nth l j
  | [], i, j, y => by simp [setN, nth]
  | x :: r, 0, 0, y => by simp [setN, nth]
  | x :: r, 0, j + 1, y => by simp [setN, nth]
  | x :: r, i + 1, 0, y => by simp [setN, nth]
  | x :: r, i + 1, j + 1, y => by
    show nth (setN r i y) j = _
    rw [nth_set]
    simp only [List.length_cons, Nat.add_lt_add_iff_right, Nat.add_right_cancel_iff]
    rfl
theorem posOf_inj : ∀ {names : List (Str × NameKind)} {x y : Str} {i : Nat}, posOf names x = some i → posOf names y = some i → x = y
  | [], _, _, _, h, _ => by cases h
  | p :: r, x, y, i, h1, h2 => by
    unfold posOf at h1 h2
    by_cases hx : p.1 = x
    · rw [if_pos hx] at h1
      cases h1
      by_cases hy : p.1 = y
      · exact hx.symm.trans hy
      · rw [if_neg hy] at h2
        cases q : posOf r y <;> rw [q] at h2 <;> cases h2
    · rw [if_neg hx] at h1
      by_cases hy : p.1 = y
      · rw [if_pos hy] at h2; cases h2
        cases q : posOf r x <;> rw [q] at h1 <;> cases h1
      · rw [if_neg hy] at h2
        cases q1 : posOf r x with
        | none => rw [q1] at h1; cases h1
        | some a =>
          cases q2 : posOf r y with
          | none => rw [q2] at h2; cases h2
          | some b =>
            rw [q1] at h1; rw [q2] at h2
            simp only [Option.map_some, Option.some.injEq] at h1 h2
            have : a = b := by omega
            subst this
            exact posOf_inj q1 q2
theorem LR.set {names : List (Str × NameKind)} {l : List (Option V)} {m : Str → Option Value} (h : LR names l m) {x : Str} {i : Nat} {v : V} {y : Value} (hi : posOf names x = some i) (hv : VR v y) :
    LR names (setN l i (some v)) (fun z => if z = x then some y else m z) := by
  intro j z u hj hu
  rw [nth_set] at hu
  by_cases e : z = x
  · subst e
    rw [hi] at hj; cases hj
    by_cases c : i < l.length
    · rw [if_pos ⟨rfl, c⟩] at hu
      cases hu
      exact ⟨y, by simp, hv⟩
    · rw [if_neg (fun q => c q.2)] at hu
      exact ⟨y, by simp, by
        exfalso
        have : ∀ {l : List (Option V)} {i : Nat} {u}, nth l i = some u → i < l.length := by
          intro l
          induction l with
          | nil => intro i u h; cases h
          | cons a r ih =>
            intro i u h
            cases i with
            | zero => exact Nat.zero_lt_succ _
            | succ i => exact Nat.succ_lt_succ (ih h)
        exact c (this hu)⟩
  · have : i ≠ j := fun q => e (posOf_inj (q ▸ hj) hi)
    rw [if_neg (fun q => this q.1)] at hu
    obtain ⟨y', hy, hr⟩ := h j z u hj hu
    exact ⟨y', by simp [e, hy], hr⟩
end
end
end Mine
namespace Mine
open PySem PySem.W PySem.Calls PyProof.Rows
noncomputable section
def Pre (σ τ : Store) : Prop := ∃ φ, τ = σ ++ φ
theorem Pre.rfl {σ : Store} : Pre σ σ := ⟨[], (List.append_nil _).symm⟩
section
variable {S : Sx} {D : Dx} {k : Nat} {env : Env} {α β γ δ : Type} {R : β → α → Prop} {R' : δ → γ → Prop} {l : List (Option V)} {σ : Store} {t : Sem α} {f : α → Sem γ} {h₀ : Heap} {s : Shared}
theorem St.tok (h : St S D h₀ env l σ s) (n : Nat) : St S D h₀ env l σ { s with toks := n } := let ⟨m, a, b⟩ := h; ⟨m, a.tok n, b⟩
theorem St.ext (h : St S D h₀ env l σ s) {h' : Heap} (n : Nat) (hk : ∀ b o, s.heap.get? b = some o → h'.get? b = some o) : St S D h₀ env l σ { s with heap := h', toks := n } := let ⟨m, a, b⟩ := h; ⟨m, a.ext n hk, b⟩
theorem St.weak {τ : Store} (h : St S D h₀ env l τ s) (p : Pre σ τ) : St S D h₀ env l σ s := by
  obtain ⟨m, a, b⟩ := h
  obtain ⟨φ, rfl⟩ := p
  exact ⟨m, a.weak, b⟩
theorem J.mono {P P' : β → List (Option V) → Store → Prop} (h : J S D k env R l σ t P) (hp : ∀ b l σ, P b l σ → P' b l σ) : J S D k env R l σ t P' :=
  fun A h₀ s hr hs => wpAny_mono (h A h₀ s hr hs) (fun _ _ ⟨b, l', σ', r, st, p⟩ => ⟨b, l', σ', r, st, hp _ _ _ p⟩) fun _ _ e => e
theorem J.weak {τ : Store} {P : β → List (Option V) → Store → Prop} (p : Pre σ τ) (h : J S D k env R l σ t P) : J S D k env R l τ t P :=
  fun A h₀ s hr hs => h A h₀ s hr (hs.weak p)
theorem J.out {P : β → List (Option V) → Store → Prop} (h : J S D k env R l σ t fun b l' σ' => ∃ τ, Pre τ σ' ∧ P b l' τ) : J S D k env R l σ t P :=
  fun A h₀ s hr hs => wpAny_mono (h A h₀ s hr hs) (fun _ _ ⟨b, l', _, r, st, τ, p, q⟩ => ⟨b, l', τ, r, st.weak p, q⟩) fun _ _ e => e
end
section
variable {S : Sx} {D : Dx} {k : Nat} {env : Env} {l : List (Option V)} {σ : Store} {P : V → List (Option V) → Store → Prop} {PB : Bool → List (Option V) → Store → Prop}
abbrev PV (S : Sx) (D : Dx) (k : Nat) (env : Env) (l : List (Option V)) (σ : Store) (t : Sem Value) (v : V) : Prop := Ev S D k env l σ t fun u l' σ' => u = v ∧ l' = l ∧ Pre σ σ'
abbrev PT (S : Sx) (D : Dx) (k : Nat) (env : Env) (l : List (Option V)) (σ : Store) (t : Sem Bool) (b : Bool) : Prop := Tv S D k env l σ t fun u l' σ' => u = b ∧ l' = l ∧ Pre σ σ'
theorem pv {t : Sem Value} {v : V} (h : PV S D k env l σ t v) (q : P v l σ) : Ev S D k env l σ t P :=
  J.out (J.mono h fun _ _ _ ⟨a, b, c⟩ => ⟨σ, c, a ▸ b ▸ q⟩)
theorem pt {t : Sem Bool} {v : Bool} (h : PT S D k env l σ t v) (q : PB v l σ) : Tv S D k env l σ t PB :=
  J.out (J.mono h fun _ _ _ ⟨a, b, c⟩ => ⟨σ, c, a ▸ b ▸ q⟩)
theorem vi {i : Int} {t : Tok} : VR (.int i) (.int i t) := ⟨t, rfl⟩
theorem vy {x : List UInt8} {t : Tok} : VR (.byt x) (.bytes x.toArray t) := ⟨t, rfl⟩
theorem vb {x : Bool} : VR (.bool x) (.bool x) := rfl
theorem vf {a : Addr} : VR (.ref a) (.ref a) := rfl
theorem e_int {i : Int} {kk pos} (h : P (.int i) l σ) : Ev S D k env l σ (eval (.Constant (.int i) kk pos) env) P :=
  fun _ _ _ _ hs => wpAny_Constant_int ⟨_, l, σ, vi, hs.tok _, h⟩
theorem e_bool {c : Bool} {kk pos} (h : P (.bool c) l σ) : Ev S D k env l σ (eval (.Constant (.bool c) kk pos) env) P :=
  fun _ _ _ _ hs => Constant_bool ⟨.bool c, l, σ, rfl, hs, h⟩
theorem e_none {kk pos} (h : P .none l σ) : Ev S D k env l σ (eval (.Constant .none kk pos) env) P :=
  fun _ _ _ _ hs => Constant_none ⟨.none, l, σ, rfl, hs, h⟩
theorem e_str {x : Str} {kk pos} (h : P (.str x) l σ) : Ev S D k env l σ (eval (.Constant (.str x) kk pos) env) P :=
  fun _ _ _ _ hs => wpAny_Constant_str ⟨.str x, l, σ, ⟨_, rfl⟩, hs.tok _, h⟩
theorem e_byt {x : List UInt8} {kk pos} (h : P (.byt x) l σ) : Ev S D k env l σ (eval (.Constant (.bytes x) kk pos) env) P :=
  fun _ _ _ _ hs => Constant_bytes ⟨.byt x, l, σ, ⟨_, rfl⟩, hs.tok _, h⟩
def isLoc (sc : Scope) (x : Str) (i : Nat) : Bool := decide (sc.kind = .function) && decide (sc.names.lookup x = some .local) && decide (posOf sc.names x = some i) && !(x == ("__debug__" : Str))
theorem isLoc_of {sc : Scope} {x : Str} {i : Nat} (h : isLoc sc x i = true) : sc.kind = .function ∧ sc.names.lookup x = some .local ∧ posOf sc.names x = some i ∧ (x == ("__debug__" : Str)) = false := by
  unfold isLoc at h
  simp only [Bool.and_eq_true, decide_eq_true_eq, Bool.not_eq_true'] at h
  exact ⟨h.1.1.1, h.1.1.2, h.1.2, h.2⟩
theorem e_name {x : Str} {pos} (i : Nat) {v : V} (hv : nth l i = some (some v)) (h : P v l σ) (hs : isLoc env.scope x i = true := by kernel_rfl) : Ev S D k env l σ (eval (.Name x pos) env) P := by
  intro A h₀ s hr hst
  obtain ⟨m, F, lr⟩ := id hst
  obtain ⟨h1, h2, h3, h4⟩ := isLoc_of hs
  obtain ⟨y, hy, r⟩ := lr i x v h3 hv
  exact wpAny_Name (wpAny_loadName_local h1 h2 F.fr.ns hy ⟨v, l, σ, r, hst, h⟩) h4
def cmpZ : CmpOp → Int → Int → Bool
  | .Eq, a, b => decide (a = b)
  | .NotEq, a, b => !decide (a = b)
  | .Lt, a, b => decide (a < b)
  | .LtE, a, b => decide (a ≤ b)
  | .Gt, a, b => decide (b < a)
  | .GtE, a, b => decide (b ≤ a)
  | _, _, _ => false
def isCmp : CmpOp → Bool
  | .Eq | .NotEq | .Lt | .LtE | .Gt | .GtE => true
  | _ => false
theorem cmp_int {prog : Program} {w : World} {A : Around} {E : Value → Shared → Prop} {s : Shared} {Q : Value → Shared → Prop} {op : CmpOp} {a b : Int} {t u : Tok} (ho : isCmp op = true) (h : Q (.bool (cmpZ op a b)) s) :
    wpAny (model prog w) A (compareOp op (.int a t) (.int b u)) Q E s := by
  cases op <;> first | cases ho | skip
  · refine eq_int ?_
    have e : (a == b) = decide (a = b) := by rw [Bool.eq_iff_iff]; simp
    rw [e]; exact h
  · refine ne_int ?_
    have e : (a != b) = !decide (a = b) := by rw [Bool.eq_iff_iff]; simp
    rw [e]; exact h
  · exact lt_int h
  · exact le_int h
  · exact gt_int h
  · exact ge_int h
theorem e_cmp {e₁ e₂ : Expr} {op : CmpOp} {pos} (h : Ev S D k env l σ (eval e₁ env) fun v₁ l₁ σ₁ => Ev S D k env l₁ σ₁ (eval e₂ env) fun v₂ l₂ σ₂ => ∃ a b, v₁ = .int a ∧ v₂ = .int b ∧ P (.bool (cmpZ op a b)) l₂ σ₂)
    (ho : isCmp op = true := by rfl) (hm : behindInMarks op e₂ = false := by with_unfolding_all rfl) : Ev S D k env l σ (eval (.Compare e₁ [op] [e₂] pos) env) P := by
  intro A h₀ s hr hst
  refine wpAny_Compare1 (wpAny_mono (h A h₀ s hr hst) ?_ fun _ _ e => e) hm
  rintro a s₁ ⟨v₁, l₁, σ₁, r₁, st₁, q⟩
  refine wpAny_mono (q A h₀ s₁ hr st₁) ?_ fun _ _ e => e
  rintro b s₂ ⟨v₂, l₂, σ₂, r₂, st₂, x, y, rfl, rfl, hp⟩
  obtain ⟨t, rfl⟩ := r₁; obtain ⟨u, rfl⟩ := r₂
  exact cmp_int ho ⟨_, _, _, vb, st₂, hp⟩
theorem t_cmp {e₁ e₂ : Expr} {op : CmpOp} {pos whole} (h : Ev S D k env l σ (eval e₁ env) fun v₁ l₁ σ₁ => Ev S D k env l₁ σ₁ (eval e₂ env) fun v₂ l₂ σ₂ => ∃ a b, v₁ = .int a ∧ v₂ = .int b ∧ PB (cmpZ op a b) l₂ σ₂)
    (ho : isCmp op = true := by rfl) (hm : behindInMarks op e₂ = false := by with_unfolding_all rfl) : Tv S D k env l σ (isTrue (.Compare e₁ [op] [e₂] pos) env whole) PB := by
  intro A h₀ s hr hst
  refine wpAny_isTrue_Compare1 (wpAny_mono (h A h₀ s hr hst) ?_ fun _ _ e => e) hm
  rintro a s₁ ⟨v₁, l₁, σ₁, r₁, st₁, q⟩
  refine wpAny_mono (q A h₀ s₁ hr st₁) ?_ fun _ _ e => e
  rintro b s₂ ⟨v₂, l₂, σ₂, r₂, st₂, x, y, rfl, rfl, hp⟩
  obtain ⟨t, rfl⟩ := r₁; obtain ⟨u, rfl⟩ := r₂
  exact cmp_int ho (wpAny_truthy_bool ⟨_, _, _, rfl, st₂, hp⟩)
theorem t_chain {e₁ e₂ e₃ : Expr} {op₁ op₂ : CmpOp} {pos whole} (h : Ev S D k env l σ (eval e₁ env) fun v₁ l₁ σ₁ => Ev S D k env l₁ σ₁ (eval e₂ env) fun v₂ l₂ σ₂ => ∃ a b c, v₁ = .int a ∧ v₂ = .int b ∧
      PV S D k env l₂ σ₂ (eval e₃ env) (.int c) ∧ PB (cmpZ op₁ a b && cmpZ op₂ b c) l₂ σ₂)
    (h1 : isCmp op₁ = true := by rfl) (h2 : isCmp op₂ = true := by rfl) (hm : lastMarks [op₁, op₂] [e₂, e₃] = false := by with_unfolding_all rfl) : Tv S D k env l σ (isTrue (.Compare e₁ [op₁, op₂] [e₂, e₃] pos) env whole) PB := by
  intro A h₀ s hr hst
  refine isTrue_chain (wpAny_mono (h A h₀ s hr hst) ?_ fun _ _ e => e) hm
  rintro a s₁ ⟨v₁, l₁, σ₁, r₁, st₁, q⟩
  refine test_link (wpAny_mono (q A h₀ s₁ hr st₁) ?_ fun _ _ e => e)
  rintro b s₂ ⟨v₂, l₂, σ₂, r₂, st₂, x, y, z, rfl, rfl, p3, hp⟩
  obtain ⟨t, rfl⟩ := r₁; obtain ⟨u, rfl⟩ := r₂
  refine cmp_int h1 (wpAny_truthy_bool ?_)
  cases hc : cmpZ op₁ x y with
  | false =>
    rw [hc] at hp
    simp only [Bool.false_eq_true, if_false]
    exact ⟨_, _, _, rfl, st₂, hp⟩
  | true =>
    rw [hc] at hp
    simp only [if_true]
    refine test_last (wpAny_mono (p3 A h₀ s₂ hr st₂) ?_ fun _ _ e => e)
    rintro c s₃ ⟨v₃, l₃, σ₃, r₃, st₃, rfl, rfl, pr⟩
    obtain ⟨t3, rfl⟩ := r₃
    exact cmp_int h2 (wpAny_truthy_bool ⟨_, _, _, rfl, st₃.weak pr, by simpa using hp⟩)
theorem e_chain {e₁ e₂ e₃ : Expr} {op₁ op₂ : CmpOp} {pos} (h : Ev S D k env l σ (eval e₁ env) fun v₁ l₁ σ₁ => Ev S D k env l₁ σ₁ (eval e₂ env) fun v₂ l₂ σ₂ => ∃ a b c, v₁ = .int a ∧ v₂ = .int b ∧
      PV S D k env l₂ σ₂ (eval e₃ env) (.int c) ∧ P (.bool (cmpZ op₁ a b && cmpZ op₂ b c)) l₂ σ₂)
    (h1 : isCmp op₁ = true := by rfl) (h2 : isCmp op₂ = true := by rfl) (hm : lastMarks [op₁, op₂] [e₂, e₃] = false := by with_unfolding_all rfl) : Ev S D k env l σ (eval (.Compare e₁ [op₁, op₂] [e₂, e₃] pos) env) P := by
  intro A h₀ s hr hst
  refine Compare_chain (wpAny_mono (h A h₀ s hr hst) ?_ fun _ _ e => e) hm
  rintro a s₁ ⟨v₁, l₁, σ₁, r₁, st₁, q⟩
  refine chain_link (wpAny_mono (q A h₀ s₁ hr st₁) ?_ fun _ _ e => e)
  rintro b s₂ ⟨v₂, l₂, σ₂, r₂, st₂, x, y, z, rfl, rfl, p3, hp⟩
  obtain ⟨t, rfl⟩ := r₁; obtain ⟨u, rfl⟩ := r₂
  refine cmp_int h1 (wpAny_truthy_bool ?_)
  cases hc : cmpZ op₁ x y with
  | false =>
    rw [hc] at hp
    simp only [Bool.false_eq_true, if_false]
    exact ⟨_, _, _, vb, st₂, hp⟩
  | true =>
    rw [hc] at hp
    simp only [if_true]
    refine chain_last (wpAny_mono (p3 A h₀ s₂ hr st₂) ?_ fun _ _ e => e)
    rintro c s₃ ⟨v₃, l₃, σ₃, r₃, st₃, rfl, rfl, pr⟩
    obtain ⟨t3, rfl⟩ := r₃
    exact cmp_int h2 ⟨_, _, _, vb, st₃.weak pr, by simpa using hp⟩
theorem e_bin {e₁ e₂ : Expr} {op : Operator} {pos} (h : Ev S D k env l σ (eval e₁ env) fun v₁ l₁ σ₁ => Ev S D k env l₁ σ₁ (eval e₂ env) fun v₂ l₂ σ₂ => ∀ x y, VR v₁ x → VR v₂ y → Ev S D k env l₂ σ₂ (binaryOp op x y) P) :
    Ev S D k env l σ (eval (.BinOp e₁ op e₂ pos) env) P := by
  intro A h₀ s hr hst
  refine wpAny_BinOp (wpAny_mono (h A h₀ s hr hst) ?_ fun _ _ e => e)
  rintro a s₁ ⟨v₁, l₁, σ₁, r₁, st₁, q⟩
  refine wpAny_mono (q A h₀ s₁ hr st₁) ?_ fun _ _ e => e
  rintro b s₂ ⟨v₂, l₂, σ₂, r₂, st₂, hp⟩
  exact hp a b r₁ r₂ A h₀ s₂ hr st₂
section
variable {e₁ e₂ : Expr} {pos : Pos}
theorem e_add (h : Ev S D k env l σ (eval e₁ env) fun v₁ l₁ σ₁ => Ev S D k env l₁ σ₁ (eval e₂ env) fun v₂ l₂ σ₂ => ∃ a b, v₁ = .int a ∧ v₂ = .int b ∧ P (.int (a + b)) l₂ σ₂) : Ev S D k env l σ (eval (.BinOp e₁ .Add e₂ pos) env) P := by
  refine e_bin (h.mono fun v₁ l₁ σ₁ q => q.mono ?_)
  rintro v₂ l₂ σ₂ ⟨a, b, rfl, rfl, hp⟩ x y ⟨t, rfl⟩ ⟨u, rfl⟩ A h₀ s hr hst
  exact add_int ⟨_, _, _, vi, hst.tok _, hp⟩
theorem e_sub (h : Ev S D k env l σ (eval e₁ env) fun v₁ l₁ σ₁ => Ev S D k env l₁ σ₁ (eval e₂ env) fun v₂ l₂ σ₂ => ∃ a b, v₁ = .int a ∧ v₂ = .int b ∧ P (.int (a - b)) l₂ σ₂) : Ev S D k env l σ (eval (.BinOp e₁ .Sub e₂ pos) env) P := by
  refine e_bin (h.mono fun v₁ l₁ σ₁ q => q.mono ?_)
  rintro v₂ l₂ σ₂ ⟨a, b, rfl, rfl, hp⟩ x y ⟨t, rfl⟩ ⟨u, rfl⟩ A h₀ s hr hst
  exact sub_int ⟨_, _, _, vi, hst.tok _, hp⟩
theorem e_mul (h : Ev S D k env l σ (eval e₁ env) fun v₁ l₁ σ₁ => Ev S D k env l₁ σ₁ (eval e₂ env) fun v₂ l₂ σ₂ => ∃ a b, v₁ = .int a ∧ v₂ = .int b ∧ IntMulOk a b ∧ P (.int (a * b)) l₂ σ₂) : Ev S D k env l σ (eval (.BinOp e₁ .Mult e₂ pos) env) P := by
  refine e_bin (h.mono fun v₁ l₁ σ₁ q => q.mono ?_)
  rintro v₂ l₂ σ₂ ⟨a, b, rfl, rfl, ok, hp⟩ x y ⟨t, rfl⟩ ⟨u, rfl⟩ A h₀ s hr hst
  exact mul_int ⟨_, _, _, vi, hst.tok _, hp⟩ ok
theorem e_mod (h : Ev S D k env l σ (eval e₁ env) fun v₁ l₁ σ₁ => Ev S D k env l₁ σ₁ (eval e₂ env) fun v₂ l₂ σ₂ => ∃ a b, v₁ = .int a ∧ v₂ = .int b ∧ b ≠ 0 ∧ P (.int (a.fmod b)) l₂ σ₂) : Ev S D k env l σ (eval (.BinOp e₁ .Mod e₂ pos) env) P := by
  refine e_bin (h.mono fun v₁ l₁ σ₁ q => q.mono ?_)
  rintro v₂ l₂ σ₂ ⟨a, b, rfl, rfl, ok, hp⟩ x y ⟨t, rfl⟩ ⟨u, rfl⟩ A h₀ s hr hst
  exact mod_int' ok ⟨_, _, _, vi, hst.tok _, hp⟩
end
end
end
end Mine
namespace Mine
open PySem PySem.W PySem.Calls PyProof.Rows
noncomputable section
def Cl (S : Sx) (D : Dx) (k : Nat) (f : Value) (args : List V) (σ : Store) (P : V → Store → Prop) : Prop :=
  ∀ (A : Around) (h₀ : Heap) (L : Addr) (m : Str → Option Value) (s : Shared) (xs : List Value), Room0 k A → FS S D h₀ L m σ s → VRs args xs →
    codeAny (model S.prog D.w) A (.call f ⟨xs, []⟩) (fun r s' => ∃ v v' σ', r = .ok (.ret v') ∧ VR v v' ∧ FS S D h₀ L m σ' s' ∧ P v σ') s
section
variable {S : Sx} {D : Dx} {k : Nat} {env : Env} {l : List (Option V)} {σ : Store} {P : V → List (Option V) → Store → Prop} {PB : Bool → List (Option V) → Store → Prop} {PF : FV → List (Option V) → Store → Prop} {PA : List V → List (Option V) → Store → Prop}
theorem Cl.call {f : Value} {args : List V} {xs : List Value} (h : Cl S D k f args σ fun v σ' => P v l σ') (hx : VRs args xs) : Ev S D k env l σ (call f xs) P := by
  rintro A h₀ s hr ⟨m, F, lr⟩
  refine wpAny_call (codeAny_mono (h A h₀ _ m s xs hr.1 F hx) ?_)
  rintro r s' ⟨v, v', σ', rfl, hv, F', p⟩
  exact ⟨v, l, σ', hv, ⟨m, F', lr⟩, p⟩
theorem a_nil {pos : Pos} (h : PA [] l σ) : Evs S D k env l σ (spliced (backTo pos (starEach [] env))) PA :=
  fun _ _ _ _ hs => Calls.spliced_nil ⟨[], l, σ, trivial, hs, h⟩
theorem a_cons {pos : Pos} {e : Expr} {rest : List Expr} (h : Ev S D k env l σ (eval e env) fun v l₁ σ₁ => Evs S D k env l₁ σ₁ (spliced (backTo pos (starEach rest env))) fun vs l₂ σ₂ => PA (v :: vs) l₂ σ₂)
    (he : starEach (e :: rest) env = (false, eval e env) :: starEach rest env := by rfl) : Evs S D k env l σ (spliced (backTo pos (starEach (e :: rest) env))) PA := by
  intro A h₀ s hr hst
  refine spliced_more (wpAny_mono (h A h₀ s hr hst) ?_ fun _ _ e => e) he
  rintro a s₁ ⟨v₁, l₁, σ₁, r₁, st₁, q⟩
  refine wpAny_mono (q A h₀ s₁ hr st₁) ?_ fun _ _ e => e
  rintro as s₂ ⟨vs, l₂, σ₂, r₂, st₂, p⟩
  exact ⟨v₁ :: vs, l₂, σ₂, ⟨r₁, r₂⟩, st₂, p⟩
def GlobOk (env : Env) : Prop := env.scope.kind = .function ∧ env.globals = mainGlobals ∧ env.builtins = builtinsNs
def isGlob (sc : Scope) (x : Str) : Bool := decide (sc.names.lookup x = some .globalImplicit) && !(x == ("__debug__" : Str))
theorem isGlob_of {sc : Scope} {x : Str} (h : isGlob sc x = true) : sc.names.lookup x = some .globalImplicit ∧ (x == ("__debug__" : Str)) = false := by
  unfold isGlob at h
  simp only [Bool.and_eq_true, decide_eq_true_eq, Bool.not_eq_true'] at h
  exact h
theorem wp_globK {A : Around} {E : Value → Shared → Prop} {s : Shared} {h₀ : Heap} {x : Str} {pos : Pos} {v : Value} {Q : Value → Shared → Prop} (hst : St S D h₀ env l σ s) (hg : GlobOk env) (hx : isGlob env.scope x = true)
    (e : nsIn (S.K D.w.params) mainGlobals x = some (some v)) (h : Q v s) : wpAny (model S.prog D.w) A (eval (.Name x pos) env) Q E s := by
  obtain ⟨m, F, lr⟩ := hst
  obtain ⟨h1, h2⟩ := isGlob_of hx
  exact Name_function_global hg.1 h1 (loadGlobal_global (by rw [hg.2.1]; exact F.base.top.g.keeps F.fr.keep) (mg_of F.base.inn F.base.top.g e) h) h2
theorem wp_globB {A : Around} {E : Value → Shared → Prop} {s : Shared} {h₀ : Heap} {x : Str} {pos : Pos} {v : Value} {Q : Value → Shared → Prop} (hst : St S D h₀ env l σ s) (hg : GlobOk env) (hx : isGlob env.scope x = true)
    (e : nsIn (S.K D.w.params) mainGlobals x = some none) (hv : bootBuiltins x = some v) (hn : x ≠ "__name__") (h : Q v s) : wpAny (model S.prog D.w) A (eval (.Name x pos) env) Q E s := by
  obtain ⟨m, F, lr⟩ := hst
  obtain ⟨h1, h2⟩ := isGlob_of hx
  exact Name_function_global hg.1 h1 (loadGlobal_builtin (by rw [hg.2.1]; exact F.base.top.g.keeps F.fr.keep) (mg_none_of F.base.inn F.base.top.g e) (by rw [hg.2.2]; exact F.base.top.b.keeps F.fr.keep) ((F.base.top.builtins x hn).trans hv) h) h2
theorem wp_callK {A : Around} {E : Value → Shared → Prop} {s : Shared} {h₀ : Heap} {pos : Pos} {f : Value} {first : List Value} {args : List Expr} {Q : Value → Shared → Prop} (hr : Room k A) (hst : St S D h₀ env l σ s)
    (hk : keepIn (S.K D.w.params) f = true) (hp : (backTo pos (starEach args env)).any (·.1) = false) (he : ∀ e r, args = e :: r → starEach args env = (false, eval e env) :: starEach r env)
    (h : Evs S D k env l σ (spliced (backTo pos (starEach args env))) fun vs l₁ σ₁ => ∀ s₁ xs, St S D h₀ env l₁ σ₁ s₁ → VRs vs xs → wpAny (model S.prog D.w) A (call f (first ++ xs)) Q E s₁) :
    wpAny (model S.prog D.w) A (callWith pos f first (backTo pos (starEach args env)) []) Q E s := by
  have key := h A h₀ s hr hst
  cases args with
  | nil =>
    obtain ⟨m, F, lr⟩ := id hst
    have := Calls.spliced_nil (M := model S.prog D.w) (A := A) (E := E) (s := s) (Q := fun vs s' => (S.K D.w.params).In s'.heap ∧ wpAny (model S.prog D.w) A (call f (first ++ vs)) Q E s')
    refine callWith_of hp (keeps_K hk) (evalArgs_nil3 ⟨F.k, ?_⟩)
    have key' : wpAny (model S.prog D.w) A (spliced []) (fun a s' => ∃ b l' σ', VRs b a ∧ St S D h₀ env l' σ' s' ∧ ∀ s₁ xs, St S D h₀ env l' σ' s₁ → VRs b xs → wpAny (model S.prog D.w) A (call f (first ++ xs)) Q E s₁) (fun _ _ => False) s := key
    intro Γ p hΓ
    obtain ⟨b, l', σ', r, st, q⟩ := key' Γ p hΓ
    exact q s [] st r Γ p hΓ
  | cons e r =>
    rw [he e r rfl] at key hp ⊢
    refine callWith_of (by show (_ || false) = false; rw [hp]; rfl) (keeps_K hk) (Calls.evalArgs_plain (wpAny_mono key ?_ fun _ _ e => e.elim))
    rintro xs s₁ ⟨vs, l₁, σ₁, r₁, st₁, q⟩
    obtain ⟨m, F, lr⟩ := id st₁
    exact ⟨F.k, q s₁ xs st₁ r₁⟩
theorem e_callK {x : Str} {np pos : Pos} {args : List Expr} (f : Value) (h : Evs S D k env l σ (spliced (backTo pos (starEach args env))) fun vs l₁ σ₁ => Cl S D k f vs σ₁ fun v σ₂ => P v l₁ σ₂)
    (hn : nsIn (S.K D.w.params) mainGlobals x = some (some f)) (hk : keepIn (S.K D.w.params) f = true)
    (hx : isGlob env.scope x = true := by kernel_rfl) (hg : GlobOk env := by exact ⟨rfl, rfl, rfl⟩)
    (hp : (backTo pos (starEach args env)).any (·.1) = false := by rfl) (he : ∀ e r, args = e :: r → starEach args env = (false, eval e env) :: starEach r env := by (intro e r h; cases h; rfl)) :
    Ev S D k env l σ (eval (.Call (.Name x np) args [] pos) env) P := by
  intro A h₀ s hr hst
  refine wpAny_Call_ofName (wp_globK hst hg hx hn ?_)
  refine wp_callK hr hst hk hp he (h.mono fun vs l₁ σ₁ q s₁ xs st₁ hx => ?_)
  exact q.call hx A h₀ s₁ hr st₁
def methOk (K : Frag) (C : Addr) (name : Str) (f : Addr) : Bool := plainGet K C name && decide (findIn K (.ref C) name = some (some (.ref f))) && isFn K (.ref f) && keepIn K (.ref f)
theorem methOk_of {K : Frag} {C : Addr} {name : Str} {f : Addr} (h : methOk K C name f = true) : plainGet K C name = true ∧ findIn K (.ref C) name = some (some (.ref f)) ∧ isFn K (.ref f) = true ∧ keepIn K (.ref f) = true := by
  unfold methOk at h
  simp only [Bool.and_eq_true, decide_eq_true_eq] at h
  exact ⟨h.1.1.1, h.1.1.2, h.1.2, h.2⟩
def kpos : List Str → Str → Option Nat
  | [], _ => none
  | a :: r, x => if a = x then some 0 else (kpos r x).map (· + 1)
theorem isStr_iff {e : Value} {x y : Str} {t : Tok} (h : e = .str x t) : e.isStr y = decide (x = y) := by
  subst h
  show (x == y) = decide (x = y)
  rw [Bool.eq_iff_iff]; simp
theorem ER.find {P : Params} {x : Str} : ∀ {ks : List Str} {vs : List V} {es : List DictEntry}, ER P ks vs es →
    (∀ i u, kpos ks x = some i → nth vs i = some u → ∃ y, getL x es = some (some y) ∧ VR u y) ∧ (kpos ks x = none → getL x es = some none) ∧ es.length = ks.length ∧ es.any (·.refKey) = false ∧ (kpos ks x = none → es.any (·.key.isStr x) = false)
  | [], [], [], _ => ⟨fun _ _ h => (nomatch h), fun _ => rfl, rfl, rfl, fun _ => rfl⟩
  | a :: ks, v :: vs, e :: es, h => by
    obtain ⟨⟨t, hk⟩, _, hv, h⟩ := h
    obtain ⟨i1, i2, i3, i4, i5⟩ := ER.find (x := x) h
    have hr : e.refKey = false := by unfold DictEntry.refKey; rw [hk]
    have hs := isStr_iff (y := x) hk
    by_cases c : a = x
    · subst c
      refine ⟨fun i u hi hu => ?_, fun hn => ?_, by simp [i3], by simp [hr, i4], fun hn => ?_⟩
      · unfold kpos at hi; rw [if_pos rfl] at hi; cases hi
        cases hu
        exact ⟨e.val, by unfold getL; simp [hs], hv⟩
      · unfold kpos at hn; rw [if_pos rfl] at hn; cases hn
      · unfold kpos at hn; rw [if_pos rfl] at hn; cases hn
    · have hsf : e.key.isStr x = false := by rw [hs]; exact decide_eq_false c
      have g : getL x (e :: es) = getL x es := by unfold getL; simp [hsf, hr]
      refine ⟨fun i u hi hu => ?_, fun hn => ?_, by simp [i3], by simp [hr, i4], fun hn => ?_⟩
      · unfold kpos at hi; rw [if_neg c] at hi
        cases q : kpos ks x with
        | none => rw [q] at hi; cases hi
        | some j =>
          rw [q] at hi; cases hi
          rw [g]
          exact i1 j u q hu
      · unfold kpos at hn; rw [if_neg c] at hn
        rw [g]
        exact i2 (by cases q : kpos ks x <;> rw [q] at hn <;> first | rfl | cases hn)
      · unfold kpos at hn; rw [if_neg c] at hn
        simp [hsf, i5 (by cases q : kpos ks x <;> rw [q] at hn <;> first | rfl | cases hn)]
  | [], [], _ :: _, h => h.elim
  | [], _ :: _, _, h => h.elim
  | _ :: _, [], _, h => h.elim
  | _ :: _, _ :: _, [], h => h.elim
theorem VR.handed {v : V} {x : Value} (h : VR v x) : handedIn x = true := by
  cases v <;> first | (cases h; rfl) | (obtain ⟨_, rfl⟩ := h; rfl)
theorem FS.inst {h₀ : Heap} {L : Addr} {m : Str → Option Value} {s : Shared} (F : FS S D h₀ L m σ s) {x C dx : Addr} {ks : List Str} {vs : List V} (h1 : (x, O.inst C dx) ∈ σ) (h2 : (dx, O.dict ks vs) ∈ σ) :
    ∃ es n, InstAt s.heap x (instObj C dx) C (some (dictOf es n)) ∧ ER D.w.params ks vs es := by
  obtain ⟨ox, hx, rfl⟩ := F.mem h1
  obtain ⟨od, hd, es, n, rfl, er⟩ := F.mem h2
  exact ⟨es, n, ⟨hx, rfl, rfl, hd⟩, er⟩
theorem e_meth {o : Expr} {name : Str} {apos pos : Pos} {args : List Expr} {pl : Sem Bool}
    (h : Ev S D k env l σ (eval o env) fun v l₁ σ₁ => ∃ x C dx ks vs f, v = .ref x ∧ (x, O.inst C dx) ∈ σ₁ ∧ (dx, O.dict ks vs) ∈ σ₁ ∧ methOk (S.K D.w.params) C name f = true ∧ kpos ks name = none ∧
      Evs S D k env l₁ σ₁ (spliced (backTo pos (starEach args env))) fun as l₂ σ₂ => Cl S D k (.ref f) (.ref x :: as) σ₂ fun v σ₃ => P v l₂ σ₃)
    (he : eval (.Call (.Attribute o name apos) args [] pos) env = (do
      let ov ← eval o env
      standAt apos.atName
      let (f, first) ← holding [ov] (getMethod ov name pl)
      callWith pos f first (backTo pos (starEach args env)) []) := by rfl)
    (hp : (backTo pos (starEach args env)).any (·.1) = false := by rfl) (ha : ∀ e r, args = e :: r → starEach args env = (false, eval e env) :: starEach r env := by (intro e r h; cases h; rfl)) :
    Ev S D k env l σ (eval (.Call (.Attribute o name apos) args [] pos) env) P := by
  intro A h₀ s hr hst
  refine MethodCall_ (wpAny_mono (h A h₀ s hr hst) ?_ fun _ _ e => e) he
  rintro a s₁ ⟨v₁, l₁, σ₁, r₁, st₁, x, C, dx, ks, vs, f, rfl, h1, h2, ok, kn, q⟩
  obtain ⟨m, F, lr⟩ := id st₁
  obtain ⟨es, n, I, er⟩ := F.inst h1 h2
  obtain ⟨o1, o2, o3, o4⟩ := methOk_of ok
  cases (show a = .ref x from r₁)
  refine method_inst F.fr F.base.inn I o1 o2 o3 ((er.find (x := name)).2.1 kn) ?_
  refine wp_callK hr st₁ o4 hp ha (q.mono fun as l₂ σ₂ c s₂ xs st₂ hx => ?_)
  exact c.call (env := env) (xs := .ref x :: xs) ⟨rfl, hx⟩ A h₀ s₂ hr st₂
def attrOk (K : Frag) (C : Addr) (name : Str) : Bool := plainGet K C name && hasDictIn K C && (match findIn K (.ref C) name with | some a => noGet K a | none => false)
theorem attrOk_of {K : Frag} {C : Addr} {name : Str} (h : attrOk K C name = true) : plainGet K C name = true ∧ hasDictIn K C = true ∧ ∃ a, findIn K (.ref C) name = some a ∧ noGet K a = true := by
  unfold attrOk at h
  simp only [Bool.and_eq_true] at h
  refine ⟨h.1.1, h.1.2, ?_⟩
  have := h.2
  split at this
  · rename_i a e; exact ⟨a, e, this⟩
  · cases this
theorem wp_attr {A : Around} {E : Value → Shared → Prop} {s : Shared} {h₀ : Heap} {x C dx : Addr} {ks : List Str} {vs : List V} {name : Str} {i : Nat} {u : V} {ex : Bool} {Q : Value → Shared → Prop} (hst : St S D h₀ env l σ s) (h1 : (x, O.inst C dx) ∈ σ)
    (h2 : (dx, O.dict ks vs) ∈ σ) (ok : attrOk (S.K D.w.params) C name = true) (kp : kpos ks name = some i) (hu : nth vs i = some u) (h : ∀ y, VR u y → Q y { s with toks := s.toks + 1 }) : wpAny (model S.prog D.w) A (getAttr (.ref x) name ex) Q E s := by
  obtain ⟨m, F, lr⟩ := hst
  obtain ⟨es, n, I, er⟩ := F.inst h1 h2
  obtain ⟨o1, o2, a, o3, o4⟩ := attrOk_of ok
  obtain ⟨y, hy, r⟩ := (er.find (x := name)).1 i u kp hu
  exact get_own F.fr F.base.inn I o1 o2 o3 o4 hy r.handed (h y r)
theorem e_attr {o : Expr} {name : Str} {pos : Pos}
    (h : Ev S D k env l σ (eval o env) fun v l₁ σ₁ => ∃ x C dx ks vs i u, v = .ref x ∧ (x, O.inst C dx) ∈ σ₁ ∧ (dx, O.dict ks vs) ∈ σ₁ ∧ attrOk (S.K D.w.params) C name = true ∧ kpos ks name = some i ∧ nth vs i = some u ∧ P u l₁ σ₁)
    (he : eval (.Attribute o name pos) env = (do
      let ov ← eval o env
      standAt pos.atName
      let r ← holding [ov] (getAttr ov name true)
      letTemporaryGo o ov r
      pure r) := by with_unfolding_all rfl) : Ev S D k env l σ (eval (.Attribute o name pos) env) P := by
  intro A h₀ s hr hst
  refine Attribute_any_ (wpAny_mono (h A h₀ s hr hst) ?_ fun _ _ e => e) he
  rintro a s₁ ⟨v₁, l₁, σ₁, r₁, st₁, x, C, dx, ks, vs, i, u, rfl, h1, h2, ok, kp, hu, q⟩
  cases (show a = .ref x from r₁)
  exact wp_attr st₁ h1 h2 ok kp hu fun y r => ⟨u, l₁, σ₁, r, st₁.tok _, q⟩
def propOk (K : Frag) (C p : Addr) (name : Str) (f : Addr) : Bool := plainGet K C name && hasDictIn K C && decide (findIn K (.ref C) name = some (some (.ref p))) && decide (specialIn K (.ref p) "__get__" = some (some (.builtin "property.__get__"))) && decide (takesIn K (.ref p) = some true) &&
  (match recIn K p "property" with | some (.ref g :: _) => decide (g = f) | _ => false)
theorem propOk_of {K : Frag} {C p : Addr} {name : Str} {f : Addr} (h : propOk K C p name f = true) : plainGet K C name = true ∧ hasDictIn K C = true ∧ findIn K (.ref C) name = some (some (.ref p)) ∧ specialIn K (.ref p) "__get__" = some (some (.builtin "property.__get__")) ∧
    takesIn K (.ref p) = some true ∧ ∃ r, recIn K p "property" = some (.ref f :: r) := by
  unfold propOk at h
  simp only [Bool.and_eq_true, decide_eq_true_eq] at h
  refine ⟨h.1.1.1.1.1, h.1.1.1.1.2, h.1.1.1.2, h.1.1.2, h.1.2, ?_⟩
  have := h.2
  split at this
  · rename_i g r e; rw [e]; exact ⟨r, by rw [of_decide_eq_true this]⟩
  · cases this
theorem room_in1 {A : Around} (h : Room0 (k + 1) A) : Room0 k A.in1 := ⟨h.1, by have := h.2.1; show A.depth + 4 * k ≤ 700; omega, by have := h.2.2.1; show A.units + 1 + 50 * k ≤ 9000; omega, h.2.2.2⟩
theorem e_prop {o : Expr} {name : Str} {pos : Pos} (p f : Addr)
    (h : Ev S D (k + 1) env l σ (eval o env) fun v l₁ σ₁ => ∃ x C dx ks vs, v = .ref x ∧ (x, O.inst C dx) ∈ σ₁ ∧ (dx, O.dict ks vs) ∈ σ₁ ∧ propOk (S.K D.w.params) C p name f = true ∧ Cl S D k (.ref f) [.ref x] σ₁ fun v σ₂ => P v l₁ σ₂)
    (he : eval (.Attribute o name pos) env = (do
      let ov ← eval o env
      standAt pos.atName
      let r ← holding [ov] (getAttr ov name true)
      letTemporaryGo o ov r
      pure r) := by with_unfolding_all rfl) : Ev S D (k + 1) env l σ (eval (.Attribute o name pos) env) P := by
  intro A h₀ s hr hst
  refine Attribute_any_ (wpAny_mono (h A h₀ s hr hst) ?_ fun _ _ e => e) he
  rintro a s₁ ⟨v₁, l₁, σ₁, r₁, st₁, x, C, dx, ks, vs, rfl, h1, h2, ok, q⟩
  cases (show a = .ref x from r₁)
  obtain ⟨m, F, lr⟩ := id st₁
  obtain ⟨es, n, I, er⟩ := F.inst h1 h2
  obtain ⟨o1, o2, o3, o4, o5, r, o6⟩ := propOk_of ok
  refine get_prop F.fr F.base.inn I o1 o2 o3 o4 o5 o6 (codeAny_mono (q A.in1 h₀ _ m { s₁ with toks := s₁.toks + 1 } [.ref x] (room_in1 hr.1) (F.tok _) ⟨rfl, trivial⟩) ?_)
  rintro r s' ⟨v, v', σ', rfl, hv, F', p⟩
  dsimp only
  rw [handedOut_of hv.handed]
  exact wpAny_pure ⟨v, l₁, σ', hv, ⟨m, F', lr⟩, p⟩
end
end
end Mine
namespace Mine
open PySem PySem.W PySem.Calls PyProof.Rows
noncomputable section
section
variable {S : Sx} {D : Dx} {k : Nat} {env : Env} {l : List (Option V)} {σ : Store} {P : V → List (Option V) → Store → Prop} {PB : Bool → List (Option V) → Store → Prop} {PF : FV → List (Option V) → Store → Prop}
theorem x_nil (h : PF .next l σ) : Ex S D k env l σ (execs [] env) PF := fun _ _ _ _ hs => wpAny_execs_nil ⟨.next, l, σ, rfl, hs, h⟩
def Thn (S : Sx) (D : Dx) (k : Nat) (env : Env) (rest : List Stmt) (PF : FV → List (Option V) → Store → Prop) : FV → List (Option V) → Store → Prop
  | .next, l, σ => Ex S D k env l σ (execs rest env) PF
  | f, l, σ => PF f l σ
theorem x_cons {st : Stmt} {rest : List Stmt} (h : Ex S D k env l σ (exec st env) (Thn S D k env rest PF)) : Ex S D k env l σ (execs (st :: rest) env) PF := by
  intro A h₀ s hr hst
  refine wpAny_execs_cons (wpAny_mono (h A h₀ s hr hst) ?_ fun _ _ e => e)
  rintro f s₁ ⟨fv, l₁, σ₁, r₁, st₁, q⟩
  cases fv with
  | next => cases (show f = .next from r₁); exact q A h₀ s₁ hr st₁
  | brk => cases (show f = .brk from r₁); exact ⟨.brk, l₁, σ₁, rfl, st₁, q⟩
  | ret v =>
    obtain ⟨x, rfl, hv⟩ := (show ∃ x, f = .ret x ∧ VR v x from r₁)
    exact ⟨.ret v, l₁, σ₁, ⟨x, rfl, hv⟩, st₁, q⟩
theorem x_ret {e : Expr} {pos} (h : Ev S D k env l σ (eval e env) fun v l₁ σ₁ => PF (.ret v) l₁ σ₁) : Ex S D k env l σ (exec (.Return (some e) pos) env) PF := by
  intro A h₀ s hr hst
  refine wpAny_Return_some (wpAny_mono (h A h₀ s hr hst) ?_ fun _ _ e => e)
  rintro x s₁ ⟨v, l₁, σ₁, r₁, st₁, q⟩
  exact ⟨.ret v, l₁, σ₁, ⟨x, rfl, r₁⟩, st₁, q⟩
theorem x_expr {e : Expr} {pos} (h : Ev S D k env l σ (eval e env) fun _ l₁ σ₁ => PF .next l₁ σ₁)
    (hi : interactive env = false := by rfl) (hs : swapsWith e none pos.line env = pure false := by rfl) : Ex S D k env l σ (exec (.Expr e pos) env) PF := by
  intro A h₀ s hr hst
  refine wpAny_Expr_any (wpAny_mono (h A h₀ s hr hst) ?_ fun _ _ e => e) hi hs
  rintro x s₁ ⟨v, l₁, σ₁, r₁, st₁, q⟩
  exact ⟨.next, l₁, σ₁, rfl, st₁, q⟩
theorem wp_store {A : Around} {E : Value → Shared → Prop} {s : Shared} {h₀ : Heap} {x : Str} {v : V} {y : Value} {i : Nat} {Q : Unit → Shared → Prop} (hst : St S D h₀ env l σ s) (hs : isLoc env.scope x i = true) (hv : VR v y)
    (h : ∀ s', St S D h₀ env (setN l i (some v)) σ s' → Q () s') : wpAny (model S.prog D.w) A (storeName env x y) Q E s := by
  obtain ⟨m, F, lr⟩ := hst
  obtain ⟨h1, h2, h3, h4⟩ := isLoc_of hs
  refine wpAny_storeName_local h2 F.fr.ns (fun h' hn hsb => h _ ⟨_, ⟨F.fr.set hn hsb, ?_, F.nd, F.hi, F.base, F.fix⟩, lr.set h3 hv⟩) (by rw [h1]; rfl)
  obtain ⟨n, N, r⟩ := F.nw
  exact ⟨n, N.set hsb, r⟩
theorem x_assign {x : Str} {p' pos : Pos} {value : Expr} (i : Nat) (h : Ev S D k env l σ (eval value env) fun v l₁ σ₁ => PF .next (setN l₁ i (some v)) σ₁)
    (hs : isLoc env.scope x i = true := by kernel_rfl) (hw : swapsWith value (some (.Name x p')) pos.line env = pure false := by rfl) : Ex S D k env l σ (exec (.Assign [.Name x p'] value pos) env) PF := by
  intro A h₀ s hr hst
  refine wpAny_Assign_Name (wpAny_mono (h A h₀ s hr hst) ?_ fun _ _ e => e) hw
  rintro y s₁ ⟨v, l₁, σ₁, r₁, st₁, q⟩
  exact wp_store st₁ hs r₁ fun s' st' => ⟨.next, _, σ₁, rfl, st', q⟩
theorem x_if {test : Expr} {body orelse : List Stmt} {pos} (h : Tv S D k env l σ (isTrue test env (eval test env)) fun b l₁ σ₁ => (b = true → Ex S D k env l₁ σ₁ (execs body env) PF) ∧ (b = false → Ex S D k env l₁ σ₁ (execs orelse env) PF)) :
    Ex S D k env l σ (exec (.If test body orelse pos) env) PF := by
  intro A h₀ s hr hst
  refine wpAny_If (wpAny_mono (h A h₀ s hr hst) ?_ fun _ _ e => e)
  rintro c s₁ ⟨b, l₁, σ₁, rfl, st₁, q⟩
  cases b with
  | true => exact q.1 rfl A h₀ s₁ hr st₁
  | false => exact q.2 rfl A h₀ s₁ hr st₁
def setOk (K : Frag) (C : Addr) (name : Str) : Bool := decide (findIn K (.ref C) "__setattr__" = some (some (.builtin "object.__setattr__"))) && plainOver K C && decide (takerIn K C name = some none) && hasDictIn K C
theorem setOk_of {K : Frag} {C : Addr} {name : Str} (h : setOk K C name = true) : findIn K (.ref C) "__setattr__" = some (some (.builtin "object.__setattr__")) ∧ plainOver K C = true ∧ takerIn K C name = some none ∧ hasDictIn K C = true := by
  unfold setOk at h
  simp only [Bool.and_eq_true, decide_eq_true_eq] at h
  exact ⟨h.1.1.1, h.1.1.2, h.1.2, h.2⟩
theorem upd_split {d : Addr} {o o' : Obj} {p q : List (Addr × Obj)} (h1 : ∀ z ∈ p, z.1 ≠ d) (h2 : ∀ z ∈ q, z.1 ≠ d) : Upd d o o' (p ++ (d, o) :: q) (p ++ (d, o') :: q) := by
  induction p with
  | nil => exact .head h2
  | cons a r ih => exact .tail (h1 a (.head _)) (ih fun z hz => h1 z (.tail _ hz))
def putK (ks : List Str) (x : Str) : List Str := match kpos ks x with | some _ => ks | none => ks ++ [x]
def putV (ks : List Str) (vs : List V) (x : Str) (v : V) : List V := match kpos ks x with | some i => setN vs i v | none => vs ++ [v]
theorem kpos_cons {a x : Str} {ks : List Str} (h : ¬ a = x) : kpos (a :: ks) x = (kpos ks x).map (· + 1) := by
  show (if a = x then some 0 else _) = _
  rw [if_neg h]
theorem ER.put {P : Params} {x : Str} {hs : Int} {v : V} {y : Value} {t : Tok} (hh : hs = PyData.keyHash P x) (hv : VR v y) : ∀ {ks : List Str} {vs : List V} {es : List DictEntry}, ER P ks vs es → ER P (putK ks x) (putV ks vs x v) (putL x hs (.str x t) y es)
  | [], [], [], _ => ⟨⟨t, rfl⟩, hh, hv, trivial⟩
  | a :: ks, u :: vs, e :: es, h => by
    obtain ⟨⟨t', hk⟩, hha, hu, h⟩ := h
    have hs' := isStr_iff (y := x) hk
    unfold putL
    by_cases c : a = x
    · subst c
      rw [if_pos (by rw [hs']; simp)]
      have e0 : kpos (a :: ks) a = some 0 := by show (if a = a then some 0 else _) = _; rw [if_pos rfl]
      unfold putK putV
      rw [e0]
      exact ⟨⟨t', hk⟩, hha, hv, h⟩
    · rw [if_neg (by rw [hs']; simp [c])]
      have ih := ER.put (t := t) hh hv h
      unfold putK putV at ih ⊢
      rw [kpos_cons c]
      cases q : kpos ks x with
      | none => rw [q] at ih; exact ⟨⟨t', hk⟩, hha, hu, ih⟩
      | some j => rw [q] at ih; exact ⟨⟨t', hk⟩, hha, hu, ih⟩
  | [], [], _ :: _, h => h.elim
  | [], _ :: _, _, h => h.elim
  | _ :: _, [], _, h => h.elim
  | _ :: _, _ :: _, [], h => h.elim
theorem putK_len {ks : List Str} {x : Str} : (putK ks x).length ≤ ks.length + 1 := by
  unfold putK
  split <;> simp
theorem wp_setattr {A : Around} {E : Value → Shared → Prop} {s : Shared} {h₀ : Heap} {L : Addr} {m : Str → Option Value} {x C dx : Addr} {ks : List Str} {vs : List V} {σ' : Store} {name : Str} {v : V} {y : Value} {Q : Unit → Shared → Prop} (F : FS S D h₀ L m σ s)
    (h1 : (x, O.inst C dx) ∈ σ) (ok : setOk (S.K D.w.params) C name = true) (hl : ks.length ≤ 900) (hv : VR v y) (hat : At dx (O.dict ks vs) (O.dict (putK ks name) (putV ks vs name v)) σ σ')
    (h : ∀ s', FS S D h₀ L m σ' s' → Q () s') : wpAny (model S.prog D.w) A (setAttr (.ref x) name y) Q E s := by
  have h2 := hat.mem
  have ek := hat.keys
  have hh := hat.hi F.hi (fun ks vs e => nomatch e)
  obtain ⟨es, n, I, er⟩ := F.inst h1 h2
  obtain ⟨o1, o2, o3, o4⟩ := setOk_of ok
  obtain ⟨nn, N, r⟩ := F.nw
  have hd := F.nd
  obtain ⟨p, q, rfl, rfl⟩ := hat.split
  obtain ⟨p', xo, q', rfl, hxo, hp, hq, hre⟩ := r.cut
  have nm := N (dx, xo) (by simp)
  have hd' : (p.map (·.1) ++ dx :: q.map (·.1)).Nodup := by simpa using hd
  have ab := nodup_mid hd'
  have e1 : xo = dictOf es n := by
    have := I.dict
    exact Option.some.inj (nm.1.symm.trans this)
  subst e1
  obtain ⟨f1, f2, f3, f4, f5⟩ := er.find (x := name)
  have gl : (getL name es).isSome = true := by
    cases c : kpos ks name with
    | none => rw [f2 c]; rfl
    | some i =>
      unfold getL
      split
      · rfl
      · rw [if_neg (by rw [f4]; decide)]; rfl
  refine set_dict (es' := putL name (PyData.keyHash D.w.params name) (.str name (s.toks + 1)) y es) (n' := putN name es n) F.fr F.base.inn N I rfl o1 o2 o3 o4 gl rfl
    (upd_split (fun z hz e => ab.1 (by rw [← hp, ← e]; exact List.mem_map_of_mem hz)) (fun z hz e => ab.2 (by rw [← hq, ← e]; exact List.mem_map_of_mem hz))) ?_ fun h' F' N' => h _ ⟨F', ⟨_, N', hre _ _ ⟨_, _, rfl, er.put rfl hv⟩⟩, ek ▸ hd, hh, F.base, F.fix⟩
  have := (er.put (x := name) (t := s.toks + 1) rfl hv).find (x := name) |>.2.2.1
  rw [this]
  have := putK_len (ks := ks) (x := name)
  omega
theorem x_setattr {o value : Expr} {name : Str} {p' pos : Pos}
    (h : Ev S D k env l σ (eval value env) fun v l₁ σ₁ => Ev S D k env l₁ σ₁ (eval o env) fun ov l₂ σ₂ => ∃ x C dx ks vs σ', ov = .ref x ∧ (x, O.inst C dx) ∈ σ₂ ∧ setOk (S.K D.w.params) C name = true ∧ ks.length ≤ 900 ∧
      At dx (O.dict ks vs) (O.dict (putK ks name) (putV ks vs name v)) σ₂ σ' ∧ PF .next l₂ σ')
    (hs : swapsWith value (some (.Attribute o name p')) pos.line env = pure false := by rfl) : Ex S D k env l σ (exec (.Assign [.Attribute o name p'] value pos) env) PF := by
  intro A h₀ s hr hst
  refine plainObj_wpAny_Assign_Attribute (wpAny_mono (h A h₀ s hr hst) ?_ fun _ _ e => e) hs
  rintro y s₁ ⟨v, l₁, σ₁, r₁, st₁, q⟩
  refine wpAny_mono (q A h₀ s₁ hr st₁) ?_ fun _ _ e => e
  rintro oy s₂ ⟨ov, l₂, σ₂, r₂, st₂, x, C, dx, ks, vs, σ', rfl, h1, ok, hl, hat, hp⟩
  cases (show oy = .ref x from r₂)
  obtain ⟨m, F, lr⟩ := st₂
  exact wp_setattr F h1 ok hl r₁ hat fun s' F' => ⟨.next, l₂, σ', rfl, ⟨m, F', lr⟩, hp⟩
def retV : FV → V
  | .ret v => v
  | _ => .none
def defOk (sc : Scope) (ps : List Str) (n : Nat) : Bool :=
  decide (sc.kind = .function) && !sc.isCoroutine && !sc.isGenerator && sc.names.all (fun x => decide (x.2 ≠ .cell)) && decide (ps.length = n) && decide (ps.Nodup) && ps.all (fun p => decide (sc.names.lookup p = some .local)) &&
  decide ((sc.names.take n).map (·.1) = ps)
theorem posOf_take : ∀ {names : List (Str × NameKind)} {x : Str} {i n : Nat}, posOf names x = some i → i < n → nth ((names.take n).map (·.1)) i = some x
  | [], _, _, _, h, _ => by cases h
  | p :: r, x, i, 0, h, hn => absurd hn (Nat.not_lt_zero _)
  | p :: r, x, i, n + 1, h, hn => by
    unfold posOf at h
    by_cases hx : p.1 = x
    · rw [if_pos hx] at h; cases h
      show some p.1 = some x
      rw [hx]
    · rw [if_neg hx] at h
      cases q : posOf r x with
      | none => rw [q] at h; cases h
      | some j =>
        rw [q] at h; cases h
        show nth ((r.take n).map (·.1)) j = some x
        exact posOf_take q (Nat.lt_of_succ_lt_succ hn)
theorem nth_lt {α : Type} : ∀ {l : List α} {i : Nat} {u : α}, nth l i = some u → i < l.length
  | [], _, _, h => by cases h
  | _ :: _, 0, _, _ => Nat.zero_lt_succ _
  | _ :: _, _ + 1, _, h => Nat.succ_lt_succ (nth_lt h)
theorem nth_app {α : Type} : ∀ {a b : List α} {i : Nat}, nth (a ++ b) i = if i < a.length then nth a i else nth b (i - a.length)
  | [], b, i => by simp
  | x :: a, b, 0 => by simp [nth]
  | x :: a, b, i + 1 => by
    show nth (a ++ b) i = _
    rw [nth_app]
    simp only [List.length_cons, Nat.add_lt_add_iff_right, Nat.add_sub_add_right]
    rfl
theorem nth_rep {n i : Nat} {u : Option V} (h : nth (List.replicate n (none : Option V)) i = some u) : u = none := by
  induction n generalizing i with
  | zero => cases h
  | succ n ih =>
    cases i with
    | zero => cases h; rfl
    | succ i => exact ih h
theorem VRs.nth : ∀ {vs : List V} {xs : List Value} {i : Nat} {v : V}, VRs vs xs → nth vs i = some v → ∃ y, Mine.nth xs i = some y ∧ VR v y
  | _ :: _, x :: _, 0, _, h, e => by cases e; exact ⟨x, rfl, h.1⟩
  | _ :: _, _ :: _, i + 1, _, h, e => VRs.nth (i := i) h.2 e
  | [], _, _, _, _, e => by cases e
  | _ :: _, [], _, _, h, _ => h.elim
theorem VRs.len : ∀ {vs : List V} {xs : List Value}, VRs vs xs → xs.length = vs.length
  | [], [], _ => rfl
  | _ :: _, _ :: _, h => by rw [List.length_cons, List.length_cons, VRs.len h.2]
  | [], _ :: _, h => h.elim
  | _ :: _, [], h => h.elim
theorem zip_look {ps : List Str} (hn : ps.Nodup) : ∀ {xs : List Value} {i : Nat} {p : Str} {y : Value}, nth ps i = some p → nth xs i = some y → (ps.zip xs).reverse.lookup p = some y := by
  induction ps with
  | nil => intro xs i p y h; cases h
  | cons a r ih =>
    intro xs i p y h1 h2
    rw [List.nodup_cons] at hn
    cases xs with
    | nil => cases h2
    | cons x xs =>
      rw [List.zip_cons_cons, List.reverse_cons, List.lookup_append]
      cases i with
      | zero =>
        cases h1; cases h2
        have : (r.zip xs).reverse.lookup a = none := by
          rw [List.lookup_eq_none_iff]
          intro z hz
          have hz' := List.mem_reverse.mp hz
          have := (List.of_mem_zip (a := z.1) (b := z.2) hz').1
          rw [bne_iff_ne]
          intro e
          exact hn.1 (e ▸ this)
        rw [this]
        simp
      | succ i =>
        rw [ih hn.2 h1 h2]
        rfl
theorem FS.back {h₀ : Heap} {L : Addr} {m : Str → Option Value} {s : Shared} (F : FS S D h₀ L m σ s) {news : List (Addr × Obj)} (N : News h₀ L s.heap news) {g : Heap} (hg : g = hideAll s.heap (news.map (·.1)))
    {L' : Addr} {m' : Str → Option Value} {σ' : Store} {s' : Shared} (F' : FS S D g L' m' σ' s') : FS S D h₀ L m σ' s' := by
  subst hg
  have st : ∀ b o, h₀.get? b = some o → (hideAll s.heap (news.map (·.1))).get? b = some o := fun b o e => hideAll_get _ (F.fr.keep b o e) fun q => by
    obtain ⟨p, hp, rfl⟩ := List.mem_map.mp q
    rw [(N p hp).2.2] at e; cases e
  obtain ⟨oL, es, ep, hL, r⟩ := F.fr.ns
  have nL : (hideAll s.heap (news.map (·.1))).get? L = some oL := hideAll_get _ hL fun q => by
    obtain ⟨p, hp, e⟩ := List.mem_map.mp q
    exact (N p hp).2.1 e
  obtain ⟨nn, N', r'⟩ := F'.nw
  refine ⟨⟨⟨oL, es, ep, F'.fr.keep L oL nL, r⟩, fun b o e => F'.fr.keep b o (st b o e), F.fr.above⟩, ⟨nn, fun p hp => ⟨(N' p hp).1, fun q => ?_, ?_⟩, r'⟩, F'.nd, F'.hi, F.base, F'.fix⟩
  · have := (N' p hp).2.2
    rw [q, nL] at this; cases this
  · cases q : h₀.get? p.1 with
    | none => rfl
    | some o => have := (N' p hp).2.2; rw [st _ _ q] at this; cases this
theorem room_deeper {A : Around} {e : Env} (h : Room0 (k + 1) A) (he : FrOk e) : Room k (A.deeper e) := by
  obtain ⟨h1, h2, h3, l, hl⟩ := h
  have hf : (A.deeper e).frames = some (e :: l) := by show A.frames.map (e :: ·) = _; rw [hl]; rfl
  exact ⟨⟨h1, by show A.depth + 1 + 4 * k ≤ 700; omega, by show A.units + 3 + 50 * k ≤ 9000; omega, _, hf⟩, e, l, hf, he⟩
theorem room_depth {A : Around} (h : Room0 k A) : A.depth < recursionLimit := by have := h.2.1; show A.depth < 1000; omega
theorem cl_def {f : Addr} {args : List V} {PR : V → Store → Prop} {name qual : Str} {params : Arguments} {body : List Stmt} {scope : Scope} {dV kV doc pm cdv ct oc : Value} {an od : Option Addr} {osl : Array (Option Value)} (ps : List Str)
    (ho : (S.K D.w.params).lookup f = some ⟨oc, od, .func (fnX name qual params body scope [] dV kV doc pm an cdv ct), osl⟩) (hcd : codeIn (S.K D.w.params) cdv qual = true)
    (hb : ∀ (s : Shared) (xs : List Value), (S.K D.w.params).In s.heap → VRs args xs → BindsTo s (fnX name qual params body scope [] dV kV doc pm an cdv ct) ⟨xs, []⟩ (ps.zip xs)) (hok : defOk scope ps args.length = true)
    (h : ∀ L, Ex S D k (envX qual scope L f cdv []) (args.map some ++ List.replicate (scope.names.length - args.length) none) σ (execs body (envX qual scope L f cdv [])) fun fl _ σ' => PR (retV fl) σ') :
    Cl S D (k + 1) (.ref f) args σ PR := by
  intro A h₀ L m s xs hr F hx
  unfold defOk at hok
  simp only [Bool.and_eq_true, decide_eq_true_eq, Bool.not_eq_true', List.all_eq_true] at hok
  obtain ⟨⟨⟨⟨⟨⟨⟨k1, k2⟩, k3⟩, k4⟩, k5⟩, k6⟩, k7⟩, k8⟩ := hok
  obtain ⟨news, N, r⟩ := F.nw
  have X := F.k
  refine codeAny_call_def (fd := fnX name qual params body scope [] dV kV doc pm an cdv ct) (body := body) (binds := ps.zip xs) (room_depth hr) (X _ _ ho) rfl (F.base.top.nolimit.keeps F.fr.keep) (codeRec_of X hcd) rfl (hb s xs X hx) k4
    (fun y hy => k7 _ (List.of_mem_zip (a := y.1) (b := y.2) hy).1) (fun h₁ hns hk₁ => ?_) k2 k3 k1
  have FG : Fr (hideAll s.heap (news.map (·.1))) s.heap.objs.size h₁ (fun y => (ps.zip xs).reverse.lookup y) := ⟨hns, fun b o e => hk₁ b o (of_hideAll _ e), Nat.le_of_eq (hideAll_size _ _)⟩
  have NG : News (hideAll s.heap (news.map (·.1))) s.heap.objs.size h₁ news := fun p hp => ⟨hk₁ _ _ (N p hp).1, Nat.ne_of_lt (Heap.lt_size (N p hp).1), hideAll_none _ (List.mem_map_of_mem hp)⟩
  have st : ∀ b o, h₀.get? b = some o → (hideAll s.heap (news.map (·.1))).get? b = some o := fun b o e => hideAll_get _ (F.fr.keep b o e) fun q => by
    obtain ⟨p, hp, rfl⟩ := List.mem_map.mp q
    rw [(N p hp).2.2] at e; cases e
  have BG : Base S D (hideAll s.heap (news.map (·.1))) := ⟨F.base.inn.keeps st, F.base.top.keeps st, F.base.scr.at fun o e => st _ o e, F.base.seer.keeps st⟩
  have hl : xs.length = args.length := hx.len
  have LG : LR scope.names (args.map some ++ List.replicate (scope.names.length - args.length) none) (fun y => (ps.zip xs).reverse.lookup y) := by
    intro i x v hi hv
    rw [nth_app] at hv
    by_cases c : i < (args.map some).length
    · rw [if_pos c] at hv
      have c' : i < args.length := by simpa using c
      have hm : ∀ {vs : List V} {i : Nat}, nth (vs.map some) i = some (some v) → nth vs i = some v := by
        intro vs
        induction vs with
        | nil => intro i h; cases h
        | cons a r ih =>
          intro i h
          cases i with
          | zero => cases h; rfl
          | succ i => exact ih (i := i) h
      obtain ⟨y, hy, hr'⟩ := hx.nth (hm hv)
      have hp := posOf_take hi c'
      rw [k8] at hp
      exact ⟨y, zip_look k6 hp hy, hr'⟩
    · rw [if_neg c] at hv
      cases nth_rep hv
  have SG : St S D (hideAll s.heap (news.map (·.1))) (envX qual scope s.heap.objs.size f cdv []) (args.map some ++ List.replicate (scope.names.length - args.length) none) σ { s with heap := h₁, toks := s.toks + (ps.zip xs).length } :=
    ⟨_, ⟨FG, ⟨news, NG, r⟩, F.nd, F.hi, BG, F.fix⟩, LG⟩
  refine wpAny_mono (h s.heap.objs.size _ _ _ (room_deeper hr ⟨k3, k2, rfl, rfl⟩) SG) ?_ fun _ _ e => e.elim
  rintro fl s' ⟨fv, l', σ', fr, ⟨m', F', _⟩, p⟩
  have back := F.back N rfl F'
  cases fv with
  | next => cases (show fl = .next from fr); exact ⟨.none, .none, σ', rfl, rfl, back, p⟩
  | brk => cases (show fl = .brk from fr); exact ⟨.none, .none, σ', rfl, rfl, back, p⟩
  | ret v =>
    obtain ⟨x, rfl, hv⟩ := (show ∃ x, fl = .ret x ∧ VR v x from fr)
    exact ⟨v, x, σ', rfl, hv, back, p⟩
end
end
end Mine
namespace Mine
open PySem PySem.W PySem.Calls PyProof.Rows
noncomputable section
section
variable {S : Sx} {D : Dx} {k : Nat} {env : Env} {l : List (Option V)} {σ : Store} {P : V → List (Option V) → Store → Prop} {PB : Bool → List (Option V) → Store → Prop} {PF : FV → List (Option V) → Store → Prop}
variable {e₁ e₂ e₃ : Expr} {pos : Pos}
theorem e_pow (h : Ev S D k env l σ (eval e₁ env) fun v₁ l₁ σ₁ => Ev S D k env l₁ σ₁ (eval e₂ env) fun v₂ l₂ σ₂ => ∃ a b, v₁ = .int a ∧ v₂ = .int b ∧ 0 ≤ b ∧ b ≤ 1000000 ∧ a.natAbs < 2 ^ 64 ∧ (Builtin.Int.intBits a : Int) * b ≤ 2 ^ 27 ∧ P (.int (a ^ b.toNat)) l₂ σ₂) :
    Ev S D k env l σ (eval (.BinOp e₁ .Pow e₂ pos) env) P := by
  refine e_bin (h.mono fun v₁ l₁ σ₁ q => q.mono ?_)
  rintro v₂ l₂ σ₂ ⟨a, b, rfl, rfl, h1, h2, h3, h4, hp⟩ x y ⟨t, rfl⟩ ⟨u, rfl⟩ A h₀ s hr hst
  exact PyProof.Rows.pow_int h1 h4 ⟨_, _, _, vi, hst.tok _, hp⟩
theorem e_fdiv (h : Ev S D k env l σ (eval e₁ env) fun v₁ l₁ σ₁ => Ev S D k env l₁ σ₁ (eval e₂ env) fun v₂ l₂ σ₂ => ∃ a b, v₁ = .int a ∧ v₂ = .int b ∧ b ≠ 0 ∧ P (.int (a.fdiv b)) l₂ σ₂) (ht : S.prog.given.tree = none) :
    Ev S D k env l σ (eval (.BinOp e₁ .FloorDiv e₂ pos) env) P := by
  refine e_bin (h.mono fun v₁ l₁ σ₁ q => q.mono ?_)
  rintro v₂ l₂ σ₂ ⟨a, b, rfl, rfl, ok, hp⟩ x y ⟨t, rfl⟩ ⟨u, rfl⟩ A h₀ s hr hst
  obtain ⟨m, F, lr⟩ := id hst
  obtain ⟨e, fl, hfr, g1, g2, g3, g4⟩ := hr.2
  refine PyProof.Rows.floordiv_int ok ⟨_, _, _, vi, hst.tok _, hp⟩ (.inr (PySem.PylongRoom.of (F.base.top.nolimit.keeps F.fr.keep) ?_ (SeerAt.of (F.base.seer.keeps F.fr.keep) ht hfr g1 g2 g3 g4)))
  have := hr.1.2.1
  show A.depth + _ < 1000
  have : Builtin.pylongFrames ≤ 290 := by decide
  omega
theorem e_addy (h : Ev S D k env l σ (eval e₁ env) fun v₁ l₁ σ₁ => Ev S D k env l₁ σ₁ (eval e₂ env) fun v₂ l₂ σ₂ => ∃ a b, v₁ = .byt a ∧ v₂ = .byt b ∧ a.length + b.length ≤ 16777216 ∧ P (.byt (a ++ b)) l₂ σ₂) :
    Ev S D k env l σ (eval (.BinOp e₁ .Add e₂ pos) env) P := by
  refine e_bin (h.mono fun v₁ l₁ σ₁ q => q.mono ?_)
  rintro v₂ l₂ σ₂ ⟨a, b, rfl, rfl, ok, hp⟩ x y ⟨t, rfl⟩ ⟨u, rfl⟩ A h₀ s hr hst
  exact bytes_add_K (by simpa using ok) rfl fun t' tk => ⟨_, _, _, vy, hst.tok _, hp⟩
theorem t_plain {e : Expr} {whole : Sem Value} (h : Ev S D k env l σ whole fun v l₁ σ₁ => ∃ b, v = .bool b ∧ PB b l₁ σ₁)
    (he : isTrue e env whole = (do let v ← whole; standAt e.pos; holding [v] (truthy v)) := by rfl) : Tv S D k env l σ (isTrue e env whole) PB := by
  intro A h₀ s hr hst
  refine isTrue_plain (wpAny_mono (h A h₀ s hr hst) ?_ fun _ _ e => e) he
  rintro x s₁ ⟨v, l₁, σ₁, r₁, st₁, b, rfl, q⟩
  cases (show x = .bool b from r₁)
  exact wpAny_truthy_bool ⟨b, l₁, σ₁, rfl, st₁, q⟩
theorem t_not {x : Expr} {whole : Sem Value} (h : Tv S D k env l σ (isTrue x env (eval x env)) fun b l₁ σ₁ => PB (!b) l₁ σ₁) : Tv S D k env l σ (isTrue (.UnaryOp .Not x pos) env whole) PB := by
  intro A h₀ s hr hst
  refine isTrue_not (wpAny_mono (h A h₀ s hr hst) ?_ fun _ _ e => e)
  rintro c s₁ ⟨b, l₁, σ₁, rfl, st₁, q⟩
  exact ⟨_, l₁, σ₁, rfl, st₁, q⟩
theorem pt_and0 {whole : Sem Value} : PT S D k env l σ (isTrue (.BoolOp .And [] pos) env whole) true := fun _ _ _ _ hst => isTrue_and_nil ⟨true, l, σ, rfl, hst, rfl, rfl, .rfl⟩
theorem pt_or0 {whole : Sem Value} : PT S D k env l σ (isTrue (.BoolOp .Or [] pos) env whole) false := fun _ _ _ _ hst => isTrue_or_nil ⟨false, l, σ, rfl, hst, rfl, rfl, .rfl⟩
theorem pt_and {x : Expr} {rest : List Expr} {whole : Sem Value} {a b : Bool} (h : PT S D k env l σ (isTrue x env (eval x env)) a) (h2 : a = true → PT S D k env l σ (isTrue (.BoolOp .And rest pos) env whole) b) :
    PT S D k env l σ (isTrue (.BoolOp .And (x :: rest) pos) env whole) (a && b) := by
  intro A h₀ s hr hst
  refine isTrue_and (wpAny_mono (h A h₀ s hr hst) ?_ fun _ _ e => e)
  rintro c s₁ ⟨a', l₁, σ₁, e0, st₁, e1, e2, p⟩
  rw [e2] at st₁
  rw [show c = a from e0.symm.trans e1]
  cases a with
  | false => exact ⟨false, l, σ, rfl, st₁.weak p, rfl, rfl, .rfl⟩
  | true => exact h2 rfl A h₀ s₁ hr (st₁.weak p)
theorem pt_or {x : Expr} {rest : List Expr} {whole : Sem Value} {a b : Bool} (h : PT S D k env l σ (isTrue x env (eval x env)) a) (h2 : a = false → PT S D k env l σ (isTrue (.BoolOp .Or rest pos) env whole) b) :
    PT S D k env l σ (isTrue (.BoolOp .Or (x :: rest) pos) env whole) (a || b) := by
  intro A h₀ s hr hst
  refine isTrue_or (wpAny_mono (h A h₀ s hr hst) ?_ fun _ _ e => e)
  rintro c s₁ ⟨a', l₁, σ₁, e0, st₁, e1, e2, p⟩
  rw [e2] at st₁
  rw [show c = a from e0.symm.trans e1]
  cases a with
  | true => exact ⟨true, l, σ, rfl, st₁.weak p, rfl, rfl, .rfl⟩
  | false => exact h2 rfl A h₀ s₁ hr (st₁.weak p)
theorem pv_one {op : BoolOp} {e : Expr} (h : Ev S D k env l σ (eval e env) P) : Ev S D k env l σ (eval (.BoolOp op [e] pos) env) P :=
  fun A h₀ s hr hst => BoolOp_one (h A h₀ s hr hst)
theorem pv_and {rest : List Expr} {a b : Bool} (h : PV S D k env l σ (eval e₁ env) (.bool a)) (h2 : a = true → PV S D k env l σ (eval (.BoolOp .And (e₂ :: rest) pos) env) (.bool b)) :
    PV S D k env l σ (eval (.BoolOp .And (e₁ :: e₂ :: rest) pos) env) (.bool (a && b)) := by
  intro A h₀ s hr hst
  refine BoolOp_and (wpAny_mono (h A h₀ s hr hst) ?_ fun _ _ e => e)
  rintro c s₁ ⟨v', l₁, σ₁, r, st₁, e1, e2, p⟩
  rw [e2] at st₁
  rw [e1] at r
  cases (show c = .bool a from r)
  refine wpAny_truthy_bool ?_
  cases a with
  | false => exact ⟨.bool false, l, σ, rfl, st₁.weak p, rfl, rfl, .rfl⟩
  | true => exact h2 rfl A h₀ s₁ hr (st₁.weak p)
theorem pv_or {rest : List Expr} {a b : Bool} (h : PV S D k env l σ (eval e₁ env) (.bool a)) (h2 : a = false → PV S D k env l σ (eval (.BoolOp .Or (e₂ :: rest) pos) env) (.bool b)) :
    PV S D k env l σ (eval (.BoolOp .Or (e₁ :: e₂ :: rest) pos) env) (.bool (a || b)) := by
  intro A h₀ s hr hst
  refine BoolOp_or (wpAny_mono (h A h₀ s hr hst) ?_ fun _ _ e => e)
  rintro c s₁ ⟨v', l₁, σ₁, r, st₁, e1, e2, p⟩
  rw [e2] at st₁
  rw [e1] at r
  cases (show c = .bool a from r)
  refine wpAny_truthy_bool ?_
  cases a with
  | true => exact ⟨.bool true, l, σ, rfl, st₁.weak p, rfl, rfl, .rfl⟩
  | false => exact h2 rfl A h₀ s₁ hr (st₁.weak p)
theorem t_or {x : Expr} {rest : List Expr} {whole : Sem Value} (h : Tv S D k env l σ (isTrue x env (eval x env)) fun a l₁ σ₁ => (a = false → Tv S D k env l₁ σ₁ (isTrue (.BoolOp .Or rest pos) env whole) PB) ∧ (a = true → PB true l₁ σ₁)) :
    Tv S D k env l σ (isTrue (.BoolOp .Or (x :: rest) pos) env whole) PB := by
  intro A h₀ s hr hst
  refine isTrue_or (wpAny_mono (h A h₀ s hr hst) ?_ fun _ _ e => e)
  rintro c s₁ ⟨a, l₁, σ₁, rfl, st₁, q1, q2⟩
  cases a with
  | true => exact ⟨true, l₁, σ₁, rfl, st₁, q2 rfl⟩
  | false => exact q1 rfl A h₀ s₁ hr st₁
theorem e_not {x : Expr} (h : Ev S D k env l σ (eval x env) fun v l₁ σ₁ => ∃ b, v = .bool b ∧ P (.bool (!b)) l₁ σ₁) : Ev S D k env l σ (eval (.UnaryOp .Not x pos) env) P := by
  intro A h₀ s hr hst
  refine wpAny_UnaryOp (wpAny_mono (h A h₀ s hr hst) ?_ fun _ _ e => e)
  rintro c s₁ ⟨v, l₁, σ₁, r, st₁, b, rfl, q⟩
  cases (show c = .bool b from r)
  exact not_of (wpAny_truthy_bool ⟨_, l₁, σ₁, vb, st₁, q⟩)
theorem e_neg {x : Expr} (h : Ev S D k env l σ (eval x env) fun v l₁ σ₁ => ∃ a, v = .int a ∧ P (.int (-a)) l₁ σ₁) : Ev S D k env l σ (eval (.UnaryOp .USub x pos) env) P := by
  intro A h₀ s hr hst
  refine wpAny_UnaryOp (wpAny_mono (h A h₀ s hr hst) ?_ fun _ _ e => e)
  rintro c s₁ ⟨v, l₁, σ₁, r, st₁, b, rfl, q⟩
  obtain ⟨t, rfl⟩ := r
  exact neg_int ⟨_, l₁, σ₁, vi, st₁.tok _, q⟩
theorem e_if {test body orelse : Expr} (h : Tv S D k env l σ (isTrue test env (eval test env)) fun b l₁ σ₁ => (b = true → Ev S D k env l₁ σ₁ (eval body env) P) ∧ (b = false → Ev S D k env l₁ σ₁ (eval orelse env) P)) :
    Ev S D k env l σ (eval (.IfExp test body orelse pos) env) P := by
  intro A h₀ s hr hst
  refine IfExp_ (wpAny_mono (h A h₀ s hr hst) ?_ fun _ _ e => e)
  rintro c s₁ ⟨b, l₁, σ₁, rfl, st₁, q⟩
  cases b with
  | true => exact q.1 rfl A h₀ s₁ hr st₁
  | false => exact q.2 rfl A h₀ s₁ hr st₁
theorem e_cmpG {op : CmpOp} (h : Ev S D k env l σ (eval e₁ env) fun v₁ l₁ σ₁ => Ev S D k env l₁ σ₁ (eval e₂ env) fun v₂ l₂ σ₂ => ∀ x y, VR v₁ x → VR v₂ y → Ev S D k env l₂ σ₂ (compareOp op x y) P)
    (hm : behindInMarks op e₂ = false := by with_unfolding_all rfl) : Ev S D k env l σ (eval (.Compare e₁ [op] [e₂] pos) env) P := by
  intro A h₀ s hr hst
  refine wpAny_Compare1 (wpAny_mono (h A h₀ s hr hst) ?_ fun _ _ e => e) hm
  rintro a s₁ ⟨v₁, l₁, σ₁, r₁, st₁, q⟩
  refine wpAny_mono (q A h₀ s₁ hr st₁) ?_ fun _ _ e => e
  rintro b s₂ ⟨v₂, l₂, σ₂, r₂, st₂, hp⟩
  exact hp a b r₁ r₂ A h₀ s₂ hr st₂
theorem t_cmpG {op : CmpOp} {whole : Sem Value} (h : Ev S D k env l σ (eval e₁ env) fun v₁ l₁ σ₁ => Ev S D k env l₁ σ₁ (eval e₂ env) fun v₂ l₂ σ₂ => ∀ x y, VR v₁ x → VR v₂ y → Ev S D k env l₂ σ₂ (compareOp op x y) fun v l₃ σ₃ => ∃ b, v = .bool b ∧ PB b l₃ σ₃)
    (hm : behindInMarks op e₂ = false := by with_unfolding_all rfl) : Tv S D k env l σ (isTrue (.Compare e₁ [op] [e₂] pos) env whole) PB := by
  intro A h₀ s hr hst
  refine wpAny_isTrue_Compare1 (wpAny_mono (h A h₀ s hr hst) ?_ fun _ _ e => e) hm
  rintro a s₁ ⟨v₁, l₁, σ₁, r₁, st₁, q⟩
  refine wpAny_mono (q A h₀ s₁ hr st₁) ?_ fun _ _ e => e
  rintro b s₂ ⟨v₂, l₂, σ₂, r₂, st₂, hp⟩
  refine wpAny_mono (hp a b r₁ r₂ A h₀ s₂ hr st₂) ?_ fun _ _ e => e
  rintro c s₃ ⟨v₃, l₃, σ₃, r₃, st₃, bb, rfl, q3⟩
  cases (show c = .bool bb from r₃)
  exact wpAny_truthy_bool ⟨bb, l₃, σ₃, rfl, st₃, q3⟩
theorem c_eqb {a b : Bool} {x y : Value} (h : P (.bool (decide (a = b))) l σ) (hx : VR (.bool a) x) (hy : VR (.bool b) y) : Ev S D k env l σ (compareOp .Eq x y) P := by
  cases hx; cases hy
  intro A h₀ s hr hst
  refine PyProof.Rows.eq_bool ⟨_, l, σ, vb, hst, ?_⟩
  have e : (a == b) = decide (a = b) := by cases a <;> cases b <;> rfl
  rw [e]; exact h
def isNone : V → Bool
  | .none => true
  | _ => false
theorem is_none_aux {v : V} {x : Value} (h : VR v x) : plainIs x .none = true ∧ (x == .none) = isNone v := by
  cases v with
  | none => cases h; exact ⟨rfl, rfl⟩
  | bool b => cases h; exact ⟨rfl, by simp [isNone]⟩
  | int i => obtain ⟨t, rfl⟩ := h; exact ⟨rfl, by simp [isNone]⟩
  | byt i => obtain ⟨t, rfl⟩ := h; exact ⟨rfl, by simp [isNone]⟩
  | str i => obtain ⟨t, rfl⟩ := h; exact ⟨rfl, by simp [isNone]⟩
  | ref a => cases h; exact ⟨rfl, by simp [isNone]⟩
theorem c_is {v : V} {x y : Value} (h : P (.bool (isNone v)) l σ) (hx : VR v x) (hy : VR .none y) : Ev S D k env l σ (compareOp .Is x y) P := by
  cases hy
  obtain ⟨a, b⟩ := is_none_aux hx
  intro A h₀ s hr hst
  exact wpAny_is_plain a ⟨_, l, σ, vb, hst, by rw [b]; exact h⟩
theorem wp_callB {A : Around} {E : Value → Shared → Prop} {s : Shared} {h₀ : Heap} {f : Value} {e : Expr} {rest : List Expr} {Q : Value → Shared → Prop} (hf : (∃ i, f = .builtin i) ∨ ∃ T, f = .type T) (hr : Room k A) (hst : St S D h₀ env l σ s)
    (hp : (backTo pos (starEach rest env)).any (·.1) = false) (he : starEach (e :: rest) env = (false, eval e env) :: starEach rest env)
    (h : Evs S D k env l σ (spliced (backTo pos (starEach (e :: rest) env))) fun vs l₁ σ₁ => ∀ s₁ xs, St S D h₀ env l₁ σ₁ s₁ → VRs vs xs → wpAny (model S.prog D.w) A (call f xs) Q E s₁) :
    wpAny (model S.prog D.w) A (callWith pos f [] (backTo pos (starEach (e :: rest) env)) []) Q E s := by
  have key := h A h₀ s hr hst
  have hp' : (backTo pos (starEach (e :: rest) env)).any (·.1) = false := by rw [he]; show (false || (backTo pos (starEach rest env)).any (·.1)) = false; rw [hp]; rfl
  rw [he] at key hp' ⊢
  have go : ∀ {g : Value}, f = g → wpAny (model S.prog D.w) A (evalArgs g true (backTo pos ((false, eval e env) :: starEach rest env)) []) (fun a s₁ => wpAny (model S.prog D.w) A (call g ([] ++ a.pos) a.kw) Q E s₁) E s := by
    rintro g rfl
    refine Calls.evalArgs_plain (wpAny_mono key ?_ fun _ _ e => e.elim)
    rintro xs s₁ ⟨vs, l₁, σ₁, r₁, st₁, q⟩
    exact q s₁ xs st₁ r₁
  rcases hf with ⟨i, rfl⟩ | ⟨T, rfl⟩
  · exact Calls.callWith_builtin hp' (go rfl)
  · exact PyProof.Rows.callWith_type hp' (go rfl)
def isB (f : Value) : Bool := match f with
  | .builtin _ => true
  | .type _ => true
  | _ => false
theorem isB_of {f : Value} (h : isB f = true) : (∃ i, f = .builtin i) ∨ ∃ T, f = .type T := by
  cases f <;> first | exact .inl ⟨_, rfl⟩ | exact .inr ⟨_, rfl⟩ | cases h
theorem e_callB {x : Str} {np : Pos} {e : Expr} {rest : List Expr} (f : Value) (h : Evs S D k env l σ (spliced (backTo pos (starEach (e :: rest) env))) fun vs l₁ σ₁ => ∀ xs, VRs vs xs → Ev S D k env l₁ σ₁ (call f xs) P)
    (hn : nsIn (S.K D.w.params) mainGlobals x = some none) (hv : bootBuiltins x = some f) (hnn : x ≠ "__name__" := by decide)
    (hf : isB f = true := by rfl) (hx : isGlob env.scope x = true := by kernel_rfl) (hg : GlobOk env := by exact ⟨rfl, rfl, rfl⟩)
    (hp : (backTo pos (starEach rest env)).any (·.1) = false := by rfl) (he : starEach (e :: rest) env = (false, eval e env) :: starEach rest env := by rfl) :
    Ev S D k env l σ (eval (.Call (.Name x np) (e :: rest) [] pos) env) P := by
  intro A h₀ s hr hst
  refine wpAny_Call_ofName (wp_globB hst hg hx hn hv hnn ?_)
  exact wp_callB (isB_of hf) hr hst hp he (h.mono fun vs l₁ σ₁ q s₁ xs st₁ hx => q xs hx A h₀ s₁ hr st₁)
theorem VRs2 {a b : V} {xs : List Value} (h : VRs [a, b] xs) : ∃ x y, xs = [x, y] ∧ VR a x ∧ VR b y := by
  rcases xs with _ | ⟨x, _ | ⟨y, _ | ⟨z, r⟩⟩⟩ <;> first | exact ⟨x, y, rfl, h.1, h.2.1⟩ | (simp [VRs] at h)
theorem VRs1 {a : V} {xs : List Value} (h : VRs [a] xs) : ∃ x, xs = [x] ∧ VR a x := by
  rcases xs with _ | ⟨x, _ | ⟨y, r⟩⟩ <;> first | exact ⟨x, rfl, h.1⟩ | (simp [VRs] at h)
theorem VRs3 {a b c : V} {xs : List Value} (h : VRs [a, b, c] xs) : ∃ x y z, xs = [x, y, z] ∧ VR a x ∧ VR b y ∧ VR c z := by
  rcases xs with _ | ⟨x, _ | ⟨y, _ | ⟨z, _ | ⟨u, r⟩⟩⟩⟩ <;> first | exact ⟨x, y, z, rfl, h.1, h.2.1, h.2.2.1⟩ | (simp [VRs] at h)
theorem VRs4 {a b c d : V} {xs : List Value} (h : VRs [a, b, c, d] xs) : ∃ x y z u, xs = [x, y, z, u] ∧ VR a x ∧ VR b y ∧ VR c z ∧ VR d u := by
  rcases xs with _ | ⟨x, _ | ⟨y, _ | ⟨z, _ | ⟨u, _ | ⟨v, r⟩⟩⟩⟩⟩ <;> first | exact ⟨x, y, z, u, rfl, h.1, h.2.1, h.2.2.1, h.2.2.2.1⟩ | (simp [VRs] at h)
theorem VRs5 {a b c d e : V} {xs : List Value} (h : VRs [a, b, c, d, e] xs) : ∃ x y z u w, xs = [x, y, z, u, w] ∧ VR a x ∧ VR b y ∧ VR c z ∧ VR d u ∧ VR e w := by
  rcases xs with _ | ⟨x, _ | ⟨y, _ | ⟨z, _ | ⟨u, _ | ⟨v, _ | ⟨w, r⟩⟩⟩⟩⟩⟩ <;> first | exact ⟨x, y, z, u, v, rfl, h.1, h.2.1, h.2.2.1, h.2.2.2.1, h.2.2.2.2.1⟩ | (simp [VRs] at h)
theorem b_min {a b : Int} (h : P (.int (min a b)) l σ) : ∀ xs, VRs [.int a, .int b] xs → Ev S D k env l σ (call (.builtin "min") xs) P := by
  intro xs hx
  obtain ⟨x, y, rfl, ⟨t, rfl⟩, ⟨u, rfl⟩⟩ := VRs2 hx
  intro A h₀ s hr hst
  refine min_two_ints hr.1.1 fun h' tk hk => ?_
  by_cases c : b < a
  · rw [if_pos c]; exact ⟨.int (min a b), l, σ, by rw [Int.min_def, if_neg (by omega)]; exact vi, hst.ext tk hk, h⟩
  · rw [if_neg c]; exact ⟨.int (min a b), l, σ, by rw [Int.min_def, if_pos (by omega)]; exact vi, hst.ext tk hk, h⟩
theorem b_max {a b : Int} (h : P (.int (max a b)) l σ) : ∀ xs, VRs [.int a, .int b] xs → Ev S D k env l σ (call (.builtin "max") xs) P := by
  intro xs hx
  obtain ⟨x, y, rfl, ⟨t, rfl⟩, ⟨u, rfl⟩⟩ := VRs2 hx
  intro A h₀ s hr hst
  refine max_two_ints hr.1.1 fun h' tk hk => ?_
  by_cases c : b > a
  · rw [if_pos c]; exact ⟨.int (max a b), l, σ, by rw [Int.max_def, if_pos (by omega)]; exact vi, hst.ext tk hk, h⟩
  · rw [if_neg c]
    refine ⟨.int (max a b), l, σ, ?_, hst.ext tk hk, h⟩
    rw [Int.max_def]
    by_cases d : a ≤ b
    · rw [if_pos d]; exact ⟨t, by congr 1; omega⟩
    · rw [if_neg d]; exact vi
theorem b_min3 {a b c : Int} (h : P (.int (min a (min b c))) l σ) : ∀ xs, VRs [.int a, .int b, .int c] xs → Ev S D k env l σ (call (.builtin "min") xs) P := by
  intro xs hx
  obtain ⟨x, y, z, rfl, ⟨t, rfl⟩, ⟨u, rfl⟩, ⟨u', rfl⟩⟩ := VRs3 hx
  intro A h₀ s hr hst
  refine PySem.min_three_ints hr.1.1 fun h' tk hk => ?_
  refine ⟨.int (min a (min b c)), l, σ, ?_, hst.ext tk hk, h⟩
  by_cases h1 : b < a <;> by_cases h2 : c < b <;> by_cases h3 : c < a <;> simp only [h1, h2, h3, if_true, if_false] <;> exact ⟨_, by congr 1; omega⟩
def b2i (b : Bool) : Int := if b = true then 1 else 0
theorem b_intb {b : Bool} (h : P (.int (b2i b)) l σ) : ∀ xs, VRs [.bool b] xs → Ev S D k env l σ (call (.type "int") xs) P := by
  intro xs hx
  obtain ⟨x, rfl, rfl⟩ := VRs1 hx
  exact fun A h₀ s hr hst => call_int_bool ⟨_, l, σ, vi, hst.tok _, h⟩
theorem b_inti {i : Int} (h : P (.int i) l σ) : ∀ xs, VRs [.int i] xs → Ev S D k env l σ (call (.type "int") xs) P := by
  intro xs hx
  obtain ⟨x, rfl, ⟨t, rfl⟩⟩ := VRs1 hx
  exact fun A h₀ s hr hst => call_int_int ⟨_, l, σ, vi, hst, h⟩
theorem b_bool {b : Bool} (h : P (.bool b) l σ) : ∀ xs, VRs [.bool b] xs → Ev S D k env l σ (call (.type "bool") xs) P := by
  intro xs hx
  obtain ⟨x, rfl, rfl⟩ := VRs1 hx
  exact fun A h₀ s hr hst => call_bool_bool ⟨_, l, σ, vb, hst, h⟩
theorem b_leny {b : List UInt8} (hb : b.length ≤ 1099511627776) (h : P (.int b.length) l σ) : ∀ xs, VRs [.byt b] xs → Ev S D k env l σ (call (.builtin "len") xs) P := by
  intro xs hx
  obtain ⟨x, rfl, ⟨t, rfl⟩⟩ := VRs1 hx
  exact fun A h₀ s hr hst => len_bytes (by simpa using hb) ⟨.int b.length, l, σ, by simp only [List.size_toArray]; exact vi, hst.tok _, h⟩
theorem FS.list {h₀ : Heap} {L : Addr} {m : Str → Option Value} {s : Shared} (F : FS S D h₀ L m σ s) {a : Addr} {vs : List V} (hm : (a, O.list vs) ∈ σ) : ∃ xs, s.heap.IsList a xs.toArray ∧ VRs vs xs := by
  obtain ⟨o, ho, xs, n, rfl, hv⟩ := F.mem hm
  exact ⟨xs, ⟨_, ho, rfl, n, rfl⟩, hv⟩
theorem FS.tup {h₀ : Heap} {L : Addr} {m : Str → Option Value} {s : Shared} (F : FS S D h₀ L m σ s) {a : Addr} {vs : List V} (hm : (a, O.tup vs) ∈ σ) : ∃ xs, s.heap.get? a = some (tupO xs) ∧ VRs vs xs := by
  obtain ⟨o, ho, xs, rfl, hv⟩ := F.mem hm
  exact ⟨xs, ho, hv⟩
theorem b_lenl {a : Addr} {vs : List V} (hm : (a, O.list vs) ∈ σ) (hb : vs.length < 2 ^ 62) (h : P (.int vs.length) l σ) : ∀ xs, VRs [.ref a] xs → Ev S D k env l σ (call (.builtin "len") xs) P := by
  intro xs hx
  obtain ⟨x, rfl, rfl⟩ := VRs1 hx
  intro A h₀ s hr hst
  obtain ⟨m, F, lr⟩ := id hst
  obtain ⟨ys, hl, hv⟩ := F.list hm
  have e := hv.len
  refine Calls.call_len_list hl (by simp only [List.size_toArray]; omega) ⟨.int vs.length, l, σ, by simp only [List.size_toArray, e]; exact vi, hst.tok _, h⟩
theorem b_lens (hb : D.ns.length < 2 ^ 62) (h : P (.int D.ns.length) l σ) : ∀ xs, VRs [.ref D.ls] xs → Ev S D k env l σ (call (.builtin "len") xs) P := by
  intro xs hx
  obtain ⟨x, rfl, rfl⟩ := VRs1 hx
  intro A h₀ s hr hst
  obtain ⟨m, F, lr⟩ := id hst
  have e := D.hns.length
  refine Calls.call_len_list (F.base.scr.at fun o e => F.fr.keep _ o e) (by simp only [List.size_toArray]; omega) ⟨.int D.ns.length, l, σ, by simp only [List.size_toArray, e]; exact vi, hst.tok _, h⟩
end
end
end Mine
namespace Mine
open PySem PySem.W PySem.Calls PyProof.Rows
noncomputable section
section
variable {S : Sx} {D : Dx} {k : Nat} {env : Env} {l : List (Option V)} {σ : Store} {P : V → List (Option V) → Store → Prop} {PB : Bool → List (Option V) → Store → Prop} {PF : FV → List (Option V) → Store → Prop}
variable {pos : Pos} {h₀ : Heap} {s : Shared}
theorem St.push (h : St S D h₀ env l σ s) {x : Obj} {o : O} (hr : OR S.prog D.w o x) (hf : x.isFreed = false) (n : Nat) : St S D h₀ env l (σ ++ [(s.heap.objs.size, o)]) { s with heap := s.heap.push x, toks := n } := let ⟨m, a, b⟩ := h; ⟨m, a.push hr hf n, b⟩
theorem e_tuple {elts : List Expr} {kk : Nat} (h : Evs S D k env l σ (spliced (backTo pos (starEach elts env))) fun vs l₁ σ₁ => vs.length ≤ 1000 ∧ ∀ a, P (.ref a) l₁ (σ₁ ++ [(a, .tup vs)])) : Ev S D k env l σ (eval (.Tuple elts kk pos) env) P := by
  intro A h₀ s hr hst
  refine Tuple_ (wpAny_mono (h A h₀ s hr hst) ?_ fun _ _ e => e)
  rintro xs s₁ ⟨vs, l₁, σ₁, r₁, st₁, hl, q⟩
  refine wpAny_newTuple ⟨_, _, _, vf, st₁.push (o := .tup vs) ⟨xs, rfl, r₁⟩ rfl s₁.toks, q _⟩ ?_
  rw [r₁.len, sizeLine_eq]; omega
theorem e_list {elts : List Expr} (h : Evs S D k env l σ (spliced (backTo pos (starEach elts env))) fun vs l₁ σ₁ => vs.length ≤ 1000 ∧ ∀ a, P (.ref a) l₁ (σ₁ ++ [(a, .list vs)])) : Ev S D k env l σ (eval (.List elts pos) env) P := by
  intro A h₀ s hr hst
  refine List_ (wpAny_mono (h A h₀ s hr hst) ?_ fun _ _ e => e)
  rintro xs s₁ ⟨vs, l₁, σ₁, r₁, st₁, hl, q⟩
  refine wpAny_newList ⟨_, _, _, vf, st₁.push (o := .list vs) ⟨xs, 0, rfl, r₁⟩ rfl s₁.toks, q _⟩ ?_
  rw [r₁.len, sizeLine_eq]; omega
def PRs (prog : Program) (w : World) : List Str × List V → List (Value × Value) → Prop := fun b a => ∃ kvs : List (Str × Value), Carries (strKind prog w) a kvs ∧ kvs.map (·.1) = b.1 ∧ VRs b.2 (kvs.map (·.2))
abbrev Evp (S : Sx) (D : Dx) (k : Nat) (env : Env) (l : List (Option V)) (σ : Store) (t : Sem (List (Value × Value))) (P : List Str × List V → List (Option V) → Store → Prop) : Prop := J S D k env (PRs S.prog D.w) l σ t P
theorem d_nil {PP : List Str × List V → List (Option V) → Store → Prop} (h : PP ([], []) l σ) : Evp S D k env l σ (evalPairs (pairTrees [] [] env pos)) PP :=
  fun _ _ _ _ hst => pairTrees_nil_walk ⟨([], []), l, σ, ⟨[], trivial, rfl, trivial⟩, hst, h⟩
theorem d_cons {PP : List Str × List V → List (Option V) → Store → Prop} {x : Str} {kk : Nat} {p : Pos} {v : Expr} {ks : List (Option Expr)} {vs : List Expr}
    (h : Ev S D k env l σ (eval v env) fun u l₁ σ₁ => Evp S D k env l₁ σ₁ (evalPairs (pairTrees ks vs env pos)) fun r l₂ σ₂ => PP (x :: r.1, u :: r.2) l₂ σ₂) :
    Evp S D k env l σ (evalPairs (pairTrees (some (.Constant (.str x) kk p) :: ks) (v :: vs) env pos)) PP := by
  intro A h₀ s hr hst
  refine pairTrees_cons_walk (wpAny_Constant_str (wpAny_mono (h A h₀ _ hr (hst.tok _)) ?_ fun _ _ e => e))
  rintro y s₁ ⟨u, l₁, σ₁, r₁, st₁, q⟩
  refine wpAny_mono (q A h₀ s₁ hr st₁) ?_ fun _ _ e => e
  rintro ys s₂ ⟨r, l₂, σ₂, ⟨kvs, hc, e1, e2⟩, st₂, p⟩
  exact ⟨(x :: r.1, u :: r.2), l₂, σ₂, ⟨(x, y) :: kvs, ⟨strKind_is _ _ _ _, rfl, hc⟩, by rw [List.map_cons, e1], ⟨r₁, e2⟩⟩, st₂, p⟩
theorem FS.map (F : FS S D h₀ L m σ s) {a : Addr} {ks : List Str} {vs : List V} (hm : (a, O.map ks vs) ∈ σ) : ∃ kvs, s.heap.DictOf (strKind S.prog D.w) a kvs ∧ kvs.map (·.1) = ks ∧ VRs vs (kvs.map (·.2)) := by
  obtain ⟨o, ho, kvs, hd, e1, e2⟩ := F.mem hm
  exact ⟨kvs, Heap.dictOf_iff.mpr ⟨o, ho, hd⟩, e1, e2⟩
theorem e_dict {keys : List (Option Expr)} {values : List Expr} (h : ∀ a, Evp S D k env l (σ ++ [(a, .map [] [])]) (evalPairs (pairTrees keys values env pos)) fun r l₁ σ₁ => ∃ σ₂, At a (.map [] []) (.map r.1 r.2) σ₁ σ₂ ∧ r.1.Nodup ∧ P (.ref a) l₁ σ₂)
    (hall : keys.all (·.isSome) = true := by rfl) (hl : keys.length = values.length := by rfl) (h0 : keys ≠ [] := by (intro h; cases h)) (hlen : keys.length ≤ 15 := by decide) : Ev S D k env l σ (eval (.Dict keys values pos) env) P := by
  intro A h₀ s hr hst
  have new : OR S.prog D.w (.map [] []) ({ cls := .type "dict", data := .dict #[] } : Obj) := by
    obtain ⟨o, ho, hd⟩ := Heap.dictOf_iff.mp (Heap.DictOf.new (knd := strKind S.prog D.w) s.heap)
    rw [Heap.get?_push_size _ rfl] at ho
    cases ho
    exact ⟨[], hd, rfl, trivial⟩
  refine wpAny_Dict_walk (knd := strKind S.prog D.w) hall hl h0 hlen (wpAny_mono (h s.heap.objs.size A h₀ _ hr (hst.push new rfl s.toks)) ?_ fun _ _ e => e.elim)
  rintro vs s₁ ⟨r, l₁, σ₁, ⟨kvs, hc, e1, e2⟩, st₁, σ₂, hat, nd, p⟩
  obtain ⟨m, F, lr⟩ := st₁
  obtain ⟨kv0, hd0, e3, _⟩ := F.map hat.mem
  have : kv0 = [] := by cases kv0 <;> first | rfl | cases e3
  subst this
  refine ⟨kvs, hc, hd0, fun h' hm hs => ⟨.ref _, l₁, σ₂, vf, ⟨m, ?_, lr⟩, p⟩⟩
  rw [merged_nil_of_nodup kvs (e1 ▸ nd)] at hm
  obtain ⟨o, ho, hd⟩ := Heap.dictOf_iff.mp hm
  exact F.upd _ hat ⟨kvs, hd, e1, e2⟩ ho (fun b x hb e => (hs.2 b hb).trans e) fun _ _ _ => ⟨_, _, rfl⟩
theorem nth_get {α : Type} : ∀ {l : List α} {i : Nat}, nth l i = l[i]?
  | [], i => by simp [nth]
  | x :: r, 0 => rfl
  | x :: r, i + 1 => by show nth r i = _; rw [nth_get]; rfl
theorem e_item {value slice : Expr} (h : Ev S D k env l σ (eval value env) fun v₁ l₁ σ₁ => Ev S D k env l₁ σ₁ (eval slice env) fun v₂ l₂ σ₂ => ∀ x y, VR v₁ x → VR v₂ y → Ev S D k env l₂ σ₂ (subscriptTail value slice x y) P) : Ev S D k env l σ (eval (.Subscript value slice pos) env) P := by
  intro A h₀ s hr hst
  refine Subscript_ (wpAny_mono (h A h₀ s hr hst) ?_ fun _ _ e => e)
  rintro x s₁ ⟨v₁, l₁, σ₁, r₁, st₁, q⟩
  refine wpAny_mono (q A h₀ s₁ hr st₁) ?_ fun _ _ e => e
  rintro y s₂ ⟨v₂, l₂, σ₂, r₂, st₂, hp⟩
  exact hp x y r₁ r₂ A h₀ s₂ hr st₂
theorem i_list {value slice : Expr} {a : Addr} {vs : List V} {i : Int} {u : V} (hm : (a, O.list vs) ∈ σ) (h0 : 0 ≤ i) (h1 : i < 2 ^ 62) (hu : nth vs i.toNat = some u) (h : P u l σ)
    (hs : ∀ a i t, subscripted slice false (.ref a) (.int i t) = operate [.ref a, .int i t] (getItem (.ref a) (.int i t)) := by (intro a i t; with_unfolding_all rfl)) : ∀ x y, VR (.ref a) x → VR (.int i) y → Ev S D k env l σ (subscriptTail value slice x y) P := by
  rintro x y rfl ⟨t, rfl⟩ A h₀ s hr hst
  obtain ⟨m, F, lr⟩ := id hst
  obtain ⟨xs, hl, hv⟩ := F.list hm
  obtain ⟨y, hy, ry⟩ := hv.nth hu
  rw [nth_get] at hy
  exact tail_any hl.typeIs slot_list_getitem.lookup (wpAny_getItem_list hl h0 (by omega) (by simpa using hy) ⟨u, l, σ, ry, hst, h⟩) (hs _ _ _)
theorem i_scr {value slice : Expr} {i n : Int} (h0 : 0 ≤ i) (h1 : i < 2 ^ 62) (hu : D.ns[i.toNat]? = some n) (h : P (.int n) l σ)
    (hs : ∀ a i t, subscripted slice false (.ref a) (.int i t) = operate [.ref a, .int i t] (getItem (.ref a) (.int i t)) := by (intro a i t; with_unfolding_all rfl)) : ∀ x y, VR (.ref D.ls) x → VR (.int i) y → Ev S D k env l σ (subscriptTail value slice x y) P := by
  rintro x y rfl ⟨t, rfl⟩ A h₀ s hr hst
  obtain ⟨m, F, lr⟩ := id hst
  have hl := F.base.scr.at fun o e => F.fr.keep _ o e
  obtain ⟨t, ht⟩ := D.hns.get i.toNat n hu
  exact tail_any hl.typeIs slot_list_getitem.lookup (wpAny_getItem_list hl h0 (by omega) (by simpa using ht) ⟨.int n, l, σ, vi, hst, h⟩) (hs _ _ _)
theorem kpos_nth : ∀ {ks : List Str} {x : Str} {i : Nat}, kpos ks x = some i → nth ks i = some x
  | [], _, _, h => by cases h
  | a :: r, x, i, h => by
    unfold kpos at h
    by_cases c : a = x
    · rw [if_pos c] at h; cases h; rw [c]; rfl
    · rw [if_neg c] at h
      cases q : kpos r x with
      | none => rw [q] at h; cases h
      | some j => rw [q] at h; cases h; exact kpos_nth (ks := r) q
theorem nth_map2 {α β γ : Type} {f : α → β} {g : α → γ} : ∀ {l : List α} {i : Nat} {b : β} {c : γ}, nth (l.map f) i = some b → nth (l.map g) i = some c → ∃ a, l[i]? = some a ∧ f a = b ∧ g a = c
  | [], _, _, _, h, _ => by cases h
  | x :: r, 0, _, _, h1, h2 => by cases h1; cases h2; exact ⟨x, rfl, rfl, rfl⟩
  | x :: r, i + 1, _, _, h1, h2 => by
    obtain ⟨a, e1, e2, e3⟩ := nth_map2 (l := r) (i := i) h1 h2
    exact ⟨a, by simpa using e1, e2, e3⟩
theorem i_map {value slice : Expr} {a : Addr} {ks : List Str} {vs : List V} {x : Str} {i : Nat} {u : V} (hm : (a, O.map ks vs) ∈ σ) (hk : kpos ks x = some i) (hu : nth vs i = some u) (h : P u l σ)
    (hs : ∀ a x t, subscripted slice false (.ref a) (.str x t) = operate [.ref a, .str x t] (getItem (.ref a) (.str x t)) := by (intro a i t; with_unfolding_all rfl)) : ∀ z y, VR (.ref a) z → VR (.str x) y → Ev S D k env l σ (subscriptTail value slice z y) P := by
  rintro z y rfl ⟨t, rfl⟩ A h₀ s hr hst
  obtain ⟨m, F, lr⟩ := id hst
  obtain ⟨kvs, hd, e1, e2⟩ := F.map hm
  obtain ⟨y, hy, ry⟩ := e2.nth hu
  have hx := kpos_nth hk
  rw [← e1] at hx
  obtain ⟨p, hp, rfl, rfl⟩ := nth_map2 hx hy
  have nd : (kvs.map (·.1)).Nodup := by obtain ⟨_, _, _, _, _, _, _, _, nd⟩ := hd; exact nd
  exact tail_any hd.typeIs slot_dict_getitem.lookup (wpAny_getItem_of (strKind_is _ _ _ _) hd.mapOf (valueAt_of_get nd hp) ⟨u, l, σ, ry, hst.tok _, h⟩) (hs _ _ _)
theorem stored_put {x : Str} {v : V} {y : Value} (hv : VR v y) : ∀ {kvs : List (Str × Value)} {ks : List Str} {vs : List V}, kvs.map (·.1) = ks → VRs vs (kvs.map (·.2)) → ks.Nodup →
    (stored kvs x y).map (·.1) = putK ks x ∧ VRs (putV ks vs x v) ((stored kvs x y).map (·.2)) := by
  have off : ∀ (kvs : List (Str × Value)), x ∉ kvs.map (·.1) → kvs.map (fun kv => if kv.1 = x then (kv.1, y) else kv) = kvs := by
    intro kvs h
    induction kvs with
    | nil => rfl
    | cons p r ih =>
      rw [List.map_cons, if_neg (fun e => h (by rw [List.map_cons, e]; exact .head _)), ih (fun hm => h (by rw [List.map_cons]; exact .tail _ hm))]
  have non : ∀ {ks : List Str}, kpos ks x = none ↔ x ∉ ks := by
    intro ks
    induction ks with
    | nil => simp [kpos]
    | cons a r ih =>
      unfold kpos
      by_cases c : a = x
      · rw [if_pos c]; simp [c]
      · rw [if_neg c]
        simp only [Option.map_eq_none_iff, ih, List.mem_cons, not_or]
        exact ⟨fun h => ⟨fun e => c e.symm, h⟩, fun h => h.2⟩
  intro kvs ks vs e1 e2 nd
  subst e1
  unfold stored
  by_cases c : (kvs.any fun kv => kv.1 = x) = true
  · rw [if_pos c]
    have hin : x ∈ kvs.map (·.1) := by
      obtain ⟨p, hp, e⟩ := List.any_eq_true.mp c
      exact List.mem_map.mpr ⟨p, hp, of_decide_eq_true e⟩
    clear c
    induction kvs generalizing vs with
    | nil => cases hin
    | cons p r ih =>
      cases vs with
      | nil => exact e2.elim
      | cons v₀ vs =>
        obtain ⟨h1, h2⟩ := e2
        rw [List.map_cons, List.nodup_cons] at nd
        by_cases c : p.1 = x
        · have hx : x ∉ r.map (·.1) := c ▸ nd.1
          have kp : kpos ((p :: r).map (·.1)) x = some 0 := by rw [List.map_cons]; show (if p.1 = x then _ else _) = _; rw [if_pos c]
          unfold putK putV
          rw [kp, List.map_cons (f := fun kv : Str × Value => if kv.1 = x then (kv.1, y) else kv), if_pos c, off r hx]
          exact ⟨rfl, hv, h2⟩
        · have hin' : x ∈ r.map (·.1) := by
            rw [List.map_cons] at hin
            rcases List.mem_cons.mp hin with e | h
            · exact absurd e.symm c
            · exact h
          obtain ⟨i1, i2⟩ := ih h2 nd.2 hin'
          unfold putK at i1 ⊢
          unfold putV at i2 ⊢
          have kp : kpos ((p :: r).map (·.1)) x = (kpos (r.map (·.1)) x).map (· + 1) := by rw [List.map_cons]; exact kpos_cons c
          rw [kp]
          rw [List.map_cons (f := fun kv : Str × Value => if kv.1 = x then (kv.1, y) else kv), if_neg c]
          cases q : kpos (r.map (·.1)) x with
          | none => exact absurd hin' (non.mp q)
          | some j =>
            rw [q] at i1 i2
            exact ⟨by rw [List.map_cons, i1]; rfl, h1, i2⟩
  · rw [if_neg c]
    have hout : x ∉ kvs.map (·.1) := fun h => by
      obtain ⟨p, hp, e⟩ := List.mem_map.mp h
      exact c (List.any_eq_true.mpr ⟨p, hp, decide_eq_true e⟩)
    unfold putK putV
    rw [non.mpr hout]
    refine ⟨by simp, ?_⟩
    have app : ∀ {a : List V} {b : List Value}, VRs a b → VRs (a ++ [v]) (b ++ [y]) := by
      intro a
      induction a with
      | nil => intro b h; cases b <;> first | exact ⟨hv, trivial⟩ | exact h.elim
      | cons u a ih => intro b h; cases b <;> first | exact h.elim | exact ⟨h.1, ih h.2⟩
    rw [List.map_append]
    exact app e2
theorem wp_setmap {A : Around} {E : Value → Shared → Prop} {a : Addr} {ks : List Str} {vs : List V} {σ' : Store} {x : Str} {t : Tok} {v : V} {y : Value} {Q : Unit → Shared → Prop} (hst : St S D h₀ env l σ s) (hat : At a (.map ks vs) (.map (putK ks x) (putV ks vs x v)) σ σ') (hz : ks.length ≤ 1000) (hv : VR v y)
    (h : ∀ s', St S D h₀ env l σ' s' → Q () s') : wpAny (model S.prog D.w) A (setItem (.ref a) (.str x t) y) Q E s := by
  obtain ⟨m, F, lr⟩ := hst
  obtain ⟨kvs, hd, e1, e2⟩ := F.map hat.mem
  have nd : (kvs.map (·.1)).Nodup := by obtain ⟨_, _, _, _, _, _, _, _, nd⟩ := hd; exact nd
  obtain ⟨p1, p2⟩ := stored_put hv e1 e2 (e1 ▸ nd)
  refine wpAny_setItem_pairs (strKind_is _ _ _ _) hd (fun h' hm hs => ?_) (by (have e : kvs.length = ks.length := by rw [← e1, List.length_map]); rw [sizeLine_eq]; omega)
  obtain ⟨o, ho, hd'⟩ := Heap.dictOf_iff.mp hm
  exact h _ ⟨m, F.upd _ hat ⟨_, hd', p1, p2⟩ ho (fun b x hb e => (hs.2 b hb).trans e) (fun _ _ _ => ⟨_, _, rfl⟩), lr⟩
theorem VRs.set : ∀ {vs : List V} {xs : List Value} {i : Nat} {v : V} {y : Value}, VRs vs xs → VR v y → VRs (setN vs i v) (setN xs i y)
  | [], [], _, _, _, _, _ => trivial
  | _ :: _, _ :: _, 0, _, _, h, hv => ⟨hv, h.2⟩
  | _ :: _, _ :: _, i + 1, _, _, h, hv => ⟨h.1, VRs.set (i := i) h.2 hv⟩
  | [], _ :: _, _, _, _, h, _ => h.elim
  | _ :: _, [], _, _, _, h, _ => h.elim
theorem setN_len {α : Type} : ∀ {l : List α} {i : Nat} {y : α}, (setN l i y).length = l.length
  | [], _, _ => rfl
  | _ :: _, 0, _ => rfl
  | _ :: r, i + 1, y => by show (setN r i y).length + 1 = _; rw [setN_len]; rfl
theorem setN_set {α : Type} : ∀ {l : List α} {i : Nat} {y : α}, setN l i y = l.set i y
  | [], _, _ => rfl
  | _ :: _, 0, _ => rfl
  | x :: r, i + 1, y => by show x :: setN r i y = _; rw [setN_set]; rfl
theorem VRs.app : ∀ {a a' : List V} {b b' : List Value}, VRs a b → VRs a' b' → VRs (a ++ a') (b ++ b')
  | [], _, [], _, _, h => h
  | _ :: _, _, _ :: _, _, h, h' => ⟨h.1, VRs.app h.2 h'⟩
  | [], _, _ :: _, _, h, _ => h.elim
  | _ :: _, _, [], _, h, _ => h.elim
end
end
end Mine
namespace Mine
open PySem PySem.W PySem.Calls PyProof.Rows
noncomputable section
def Sub (σ τ : Store) : Prop := ∃ φ, τ.Perm (σ ++ φ)
theorem Sub.rfl {σ : Store} : Sub σ σ := ⟨[], by rw [List.append_nil]⟩
theorem Sub.of_pre {σ τ : Store} (h : Pre σ τ) : Sub σ τ := by obtain ⟨φ, rfl⟩ := h; exact ⟨φ, .refl _⟩
theorem Sub.nil {τ : Store} : Sub [] τ := ⟨τ, .refl _⟩
inductive Pick (p : Addr × O) : Store → Store → Prop
  | head {r} : Pick p (p :: r) r
  | tail {q r r'} : Pick p r r' → Pick p (q :: r) (q :: r')
theorem Pick.perm {p : Addr × O} {σ τ : Store} (h : Pick p σ τ) : σ.Perm (p :: τ) := by
  induction h with
  | head => exact .refl _
  | tail _ ih => exact (List.Perm.cons _ ih).trans (.swap ..)
theorem Sub.cons {p : Addr × O} {σ τ τ' : Store} (h : Pick p τ τ') (h' : Sub σ τ') : Sub (p :: σ) τ := by
  obtain ⟨φ, e⟩ := h'
  exact ⟨φ, h.perm.trans (.cons _ e)⟩
theorem NR.perm {pg : Program} {w : World} {σ τ : Store} (h : τ.Perm σ) : ∀ {ns : List (Addr × Obj)}, NR pg w τ ns → ∃ ns', ns.Perm ns' ∧ NR pg w σ ns' := by
  induction h with
  | nil => exact fun h => ⟨_, .refl _, h⟩
  | cons x _ ih =>
    rintro (_ | ⟨n, ns⟩) h
    · exact h.elim
    · obtain ⟨e, r, h⟩ := h
      obtain ⟨ns', p, q⟩ := ih h
      exact ⟨n :: ns', .cons _ p, e, r, q⟩
  | swap x y l =>
    rintro (_ | ⟨n, _ | ⟨n', ns⟩⟩) h
    · exact h.elim
    · exact h.2.2.elim
    · exact ⟨n' :: n :: ns, .swap .., h.2.2.1, h.2.2.2.1, h.1, h.2.1, h.2.2.2.2⟩
  | trans _ _ ih1 ih2 =>
    intro ns h
    obtain ⟨ns', p, q⟩ := ih1 h
    obtain ⟨ns'', p', q'⟩ := ih2 q
    exact ⟨ns'', p.trans p', q'⟩
section
variable {S : Sx} {D : Dx} {k : Nat} {env : Env} {α β : Type} {R : β → α → Prop} {l : List (Option V)} {σ τ : Store} {t : Sem α} {h₀ : Heap} {L : Addr} {m : Str → Option Value} {s : Shared}
theorem FS.sub (h : FS S D h₀ L m τ s) (p : Sub σ τ) : FS S D h₀ L m σ s := by
  obtain ⟨φ, e⟩ := p
  obtain ⟨n, N, r⟩ := h.nw
  obtain ⟨n', e', r'⟩ := r.perm e
  exact FS.weak (φ := φ) ⟨h.fr, ⟨n', fun q hq => N q (e'.mem_iff.mpr hq), r'⟩, (e.map _).nodup_iff.mp h.nd, fun a ks vs hm => h.hi a ks vs (e.mem_iff.mpr hm), h.base, h.fix⟩
theorem St.sub (h : St S D h₀ env l τ s) (p : Sub σ τ) : St S D h₀ env l σ s := let ⟨m, a, b⟩ := h; ⟨m, a.sub p, b⟩
theorem J.sub {P : β → List (Option V) → Store → Prop} (p : Sub σ τ) (h : J S D k env R l σ t P) : J S D k env R l τ t P := fun A h₀ s hr hs => h A h₀ s hr (hs.sub p)
theorem Cl.outS {f : Value} {args : List V} {P : V → Store → Prop} (h : Cl S D k f args σ fun v σ' => ∃ τ, Sub τ σ' ∧ P v τ) : Cl S D k f args σ P :=
  fun A h₀ L m s xs hr hs hx => codeAny_mono (h A h₀ L m s xs hr hs hx) fun _ _ ⟨v, v', _, e, r, st, τ, p, q⟩ => ⟨v, v', τ, e, r, st.sub p, q⟩
theorem FS.lose {p q : Store} {a : Addr} {o : O} (h : FS S D h₀ L m (p ++ (a, o) :: q) s) {h' : Heap} (tk : Nat) (hk : ∀ b x, b ≠ a → s.heap.get? b = some x → h'.get? b = some x) : FS S D h₀ L m (p ++ q) { s with heap := h', toks := tk } := by
  obtain ⟨n, N, r⟩ := h.nw
  have hd := h.nd
  obtain ⟨p', x, q', rfl, _, hp, hq, hre⟩ := r.cut
  have nm := N (a, x) (by simp)
  have hd' : (p.map (·.1) ++ a :: q.map (·.1)).Nodup := by simpa using hd
  have ab := nodup_mid hd'
  obtain ⟨oL, es, ep, hL, rest⟩ := h.fr.ns
  have fr' : Fr h₀ L h' m := ⟨⟨oL, es, ep, hk _ _ (Ne.symm nm.2.1) hL, rest⟩, fun b o e => hk b o (fun q => by rw [q] at e; rw [show h₀.get? a = none from nm.2.2] at e; cases e) (h.fr.keep b o e), h.fr.above⟩
  have cutr : ∀ {p : Store} {p' : List (Addr × Obj)}, p'.map (·.1) = p.map (·.1) → NR S.prog D.w (p ++ (a, o) :: q) (p' ++ (a, x) :: q') → NR S.prog D.w (p ++ q) (p' ++ q') := by
    intro p
    induction p with
    | nil =>
      intro p' e h
      cases p' with
      | nil => exact h.2.2
      | cons y p' => simp at e
    | cons z p ih =>
      intro p' e h
      cases p' with
      | nil => simp at e
      | cons y p' => exact ⟨h.1, h.2.1, ih (by simp at e; exact e.2) h.2.2⟩
  refine ⟨fr', ⟨p' ++ q', fun z hz => ?_, cutr hp r⟩, ?_, fun b ks vs hm => h.hi b ks vs ?_, h.base, h.fix⟩
  · rcases List.mem_append.mp hz with hz | hz
    · have w := N z (List.mem_append_left _ hz)
      exact ⟨hk _ _ (fun e => ab.1 (by rw [← hp, ← e]; exact List.mem_map_of_mem hz)) w.1, w.2⟩
    · have w := N z (List.mem_append_right _ (.tail _ hz))
      exact ⟨hk _ _ (fun e => ab.2 (by rw [← hq, ← e]; exact List.mem_map_of_mem hz)) w.1, w.2⟩
  · have hs : (p ++ q).Sublist (p ++ (a, o) :: q) := .append (.refl _) (.cons _ (.refl _))
    exact (hs.map _).nodup hd
  · rcases List.mem_append.mp hm with hm | hm
    · exact List.mem_append_left _ hm
    · exact List.mem_append_right _ (.tail _ hm)
end
section
variable {S : Sx} {D : Dx} {k : Nat} {env : Env} {l : List (Option V)} {σ : Store} {P : V → List (Option V) → Store → Prop} {PB : Bool → List (Option V) → Store → Prop} {PF : FV → List (Option V) → Store → Prop}
  {PU : List (Option V) → Store → Prop} {pos : Pos} {h₀ : Heap} {s : Shared} {L : Addr} {m : Str → Option Value}
abbrev As (S : Sx) (D : Dx) (k : Nat) (env : Env) (l : List (Option V)) (σ : Store) (t : Sem Unit) (P : List (Option V) → Store → Prop) : Prop := J S D k env (fun (_ : Unit) (_ : Unit) => True) l σ t fun _ l σ => P l σ
theorem s_bind {x : Str} {v : V} {y : Value} (i : Nat) (hv : VR v y) (h : PU (setN l i (some v)) σ) (hs : isLoc env.scope x i = true := by kernel_rfl) : As S D k env l σ (bindName env x y) PU :=
  fun _ _ _ _ hst => wpAny_bindName (wp_store hst hs hv fun _ st' => ⟨(), _, σ, trivial, st', h⟩)
theorem s_name {x : Str} {p : Pos} {v : V} {y : Value} (i : Nat) (hv : VR v y) (h : PU (setN l i (some v)) σ) (hs : isLoc env.scope x i = true := by kernel_rfl) : As S D k env l σ (assign (.Name x p) env y) PU :=
  fun _ _ _ _ hst => wpAny_assign_Name (wp_store hst hs hv fun _ st' => ⟨(), _, σ, trivial, st', h⟩)
theorem s_none (h : PU l σ) : As S D k env l σ (assignInOrder [] []) PU := fun _ _ _ _ hst => wpAny_assignInOrder_none ⟨(), l, σ, trivial, hst, h⟩
theorem s_more {t : Value → Sem Unit} {ts : List (Value → Sem Unit)} {v : V} {vs : List V} (h : ∀ x, VR v x → As S D k env l σ (t x) fun l₁ σ₁ => ∀ xs, VRs vs xs → As S D k env l₁ σ₁ (assignInOrder ts xs) PU) :
    ∀ xs, VRs (v :: vs) xs → As S D k env l σ (assignInOrder (t :: ts) xs) PU := by
  rintro (_ | ⟨x, xs⟩) hx A h₀ s hr hst
  · exact hx.elim
  · refine wpAny_assignInOrder_more (wpAny_mono (h x hx.1 A h₀ s hr hst) ?_ fun _ _ e => e)
    rintro _ s₁ ⟨_, l₁, σ₁, _, st₁, q⟩
    exact q xs hx.2 A h₀ s₁ hr st₁
theorem s_last (h : PU l σ) : ∀ xs, VRs [] xs → As S D k env l σ (assignInOrder [] xs) PU := by
  rintro (_ | ⟨x, xs⟩) hx
  · exact s_none h
  · exact hx.elim
theorem ext_old {h h' : Heap} (he : Heap.ExtBut h.objs.size h h') : ∀ b o, h.get? b = some o → h'.get? b = some o := fun b o e => he b o (Nat.ne_of_lt (Heap.lt_size e)) e
theorem s_tup {elts : List Expr} {kk : Nat} {a : Addr} {vs : List V} (hm : (a, O.tup vs) ∈ σ) (h : ∀ xs, VRs vs xs → As S D k env l σ (assignInOrder ((assignEach elts env).map (·.2)) xs) PU)
    (hn : (assignEach elts env).length = vs.length := by rfl) (hs : (assignEach elts env).findIdx? (·.1) = none := by rfl) : As S D k env l σ (assign (.Tuple elts kk pos) env (.ref a)) PU := by
  intro A h₀ s hr hst
  obtain ⟨m, F, lr⟩ := id hst
  obtain ⟨xs, ho, hv⟩ := F.tup hm
  exact wpAny_assign_Tuple hr.1.1 ⟨_, ho, rfl, 0, rfl⟩ (by rw [hn, List.size_toArray, hv.len]) hs fun h' he => h xs.toArray.toList hv A h₀ _ hr (hst.ext s.toks (ext_old he))
theorem x_tup {elts : List Expr} {kk : Nat} {tpos : Pos} {value : Expr} (h : Ev S D k env l σ (eval value env) fun v l₁ σ₁ => ∃ a vs, v = .ref a ∧ (a, O.tup vs) ∈ σ₁ ∧ ∀ xs, VRs vs xs → (assignEach elts env).length = vs.length ∧
      As S D k env l₁ σ₁ (assignInOrder ((assignEach elts env).map (·.2)) xs) fun l₂ σ₂ => PF .next l₂ σ₂)
    (hs : swapsWithSole [.Tuple elts kk tpos] value pos.line env = pure false := by rfl) (hw : swappedStores [.Tuple elts kk tpos] value env = pure none := by rfl) (hf : (assignEach elts env).findIdx? (·.1) = none := by rfl) :
    Ex S D k env l σ (exec (.Assign [.Tuple elts kk tpos] value pos) env) PF := by
  intro A h₀ s hr hst
  refine PyProof.Rows.Assign_Tuple (wpAny_mono (h A h₀ s hr hst) ?_ fun _ _ e => e) hs hw
  rintro x s₁ ⟨v, l₁, σ₁, r₁, st₁, a, vs, rfl, hm, q⟩
  cases (show x = .ref a from r₁)
  obtain ⟨m, F, lr⟩ := id st₁
  obtain ⟨xs, ho, hv⟩ := F.tup hm
  refine wpAny_assign_Tuple hr.1.1 ⟨_, ho, rfl, 0, rfl⟩ (by rw [(q xs hv).1, List.size_toArray, hv.len]) hf fun h' he => ?_
  refine wpAny_mono ((q xs hv).2 A h₀ _ hr (st₁.ext s₁.toks (ext_old he))) ?_ fun _ _ e => e
  rintro _ s₂ ⟨_, l₂, σ₂, _, st₂, p⟩
  exact ⟨.next, l₂, σ₂, rfl, st₂, p⟩
theorem VRs.rev : ∀ {vs : List V} {xs : List Value}, VRs vs xs → VRs vs.reverse xs.reverse
  | [], [], _ => trivial
  | _ :: _, _ :: _, h => by rw [List.reverse_cons, List.reverse_cons]; exact (VRs.rev h.2).app ⟨h.1, trivial⟩
  | [], _ :: _, h => h.elim
  | _ :: _, [], h => h.elim
theorem x_tupS {elts : List Expr} {kk : Nat} {tpos : Pos} {value : Expr} {names : List Str} (h : Ev S D k env l σ (eval value env) fun v l₁ σ₁ => ∃ a vs, v = .ref a ∧ (a, O.tup vs) ∈ σ₁ ∧ names.length = vs.length ∧ ∀ xs, VRs vs.reverse xs →
      As S D k env l₁ σ₁ (assignInOrder (names.reverse.map fun n => bindName env n) xs) fun l₂ σ₂ => PF .next l₂ σ₂)
    (hs : swapsWithSole [.Tuple elts kk tpos] value pos.line env = pure false := by rfl) (hw : swappedStores [.Tuple elts kk tpos] value env = pure (some names) := by rfl) :
    Ex S D k env l σ (exec (.Assign [.Tuple elts kk tpos] value pos) env) PF := by
  intro A h₀ s hr hst
  refine PyProof.Rows.Assign_Tuple_swapped (wpAny_mono (h A h₀ s hr hst) ?_ fun _ _ e => e) hs hw
  rintro x s₁ ⟨v, l₁, σ₁, r₁, st₁, a, vs, rfl, hm, hl, q⟩
  cases (show x = .ref a from r₁)
  obtain ⟨m, F, lr⟩ := id st₁
  obtain ⟨xs, ho, hv⟩ := F.tup hm
  rw [show names.length = xs.toArray.size by rw [List.size_toArray, hv.len, hl]]
  refine wpAny_unpackItems_tuple hr.1.1 ⟨_, ho, rfl, 0, rfl⟩ fun h' he => ?_
  refine wpAny_mono (q xs.reverse hv.rev A h₀ _ hr (st₁.ext s₁.toks (ext_old he))) ?_ fun _ _ e => e
  rintro _ s₂ ⟨_, l₂, σ₂, _, st₂, p⟩
  exact ⟨.next, l₂, σ₂, rfl, st₂, p⟩
theorem s_sub {o i : Expr} {y : Value} (h : Ev S D k env l σ (eval o env) fun ov l₁ σ₁ => Ev S D k env l₁ σ₁ (eval i env) fun iv l₂ σ₂ => ∀ a b, VR ov a → VR iv b → As S D k env l₂ σ₂ (setItem a b y) PU) :
    As S D k env l σ (assign (.Subscript o i pos) env y) PU := by
  intro A h₀ s hr hst
  rw [arm_assign_Subscript]
  refine wpAny_bind (wpAny_holding (wpAny_mono (h A h₀ s hr hst) ?_ fun _ _ e => e))
  rintro a s₁ ⟨ov, l₁, σ₁, r₁, st₁, q⟩
  refine wpAny_bind (wpAny_holding (wpAny_mono (q A h₀ s₁ hr st₁) ?_ fun _ _ e => e))
  rintro b s₂ ⟨iv, l₂, σ₂, r₂, st₂, q⟩
  refine wpAny_bind (wpAny_standAt (wpAny_bind (wpAny_holding (wpAny_mono (q a b r₁ r₂ A h₀ s₂ hr st₂) ?_ fun _ _ e => e))))
  rintro _ s₃ ⟨_, l₃, σ₃, _, st₃, q⟩
  exact wpAny_release ⟨(), l₃, σ₃, trivial, st₃, q⟩
theorem x_setitem {o i value : Expr} {p' : Pos} (h : Ev S D k env l σ (eval value env) fun v l₀ σ₀ => ∀ y, VR v y → Ev S D k env l₀ σ₀ (eval o env) fun ov l₁ σ₁ => Ev S D k env l₁ σ₁ (eval i env) fun iv l₂ σ₂ => ∀ a b, VR ov a → VR iv b →
      As S D k env l₂ σ₂ (setItem a b y) fun l₃ σ₃ => PF .next l₃ σ₃)
    (hs : swapsWith value (some (.Subscript o i p')) pos.line env = pure false := by rfl) : Ex S D k env l σ (exec (.Assign [.Subscript o i p'] value pos) env) PF := by
  intro A h₀ s hr hst
  refine wpAny_Assign_Subscript (wpAny_mono (h A h₀ s hr hst) ?_ fun _ _ e => e) hs
  rintro y s₀ ⟨v, l₀, σ₀, r₀, st₀, q⟩
  refine wpAny_mono (q y r₀ A h₀ s₀ hr st₀) ?_ fun _ _ e => e
  rintro a s₁ ⟨ov, l₁, σ₁, r₁, st₁, q⟩
  refine wpAny_mono (q A h₀ s₁ hr st₁) ?_ fun _ _ e => e
  rintro b s₂ ⟨iv, l₂, σ₂, r₂, st₂, q⟩
  refine wpAny_mono (q a b r₁ r₂ A h₀ s₂ hr st₂) ?_ fun _ _ e => e
  rintro _ s₃ ⟨_, l₃, σ₃, _, st₃, q⟩
  exact ⟨.next, l₃, σ₃, rfl, st₃, q⟩
theorem st_map {a : Addr} {ks : List Str} {vs : List V} {σ' : Store} {x : Str} {v : V} {y : Value} (hv : VR v y) (hat : At a (.map ks vs) (.map (putK ks x) (putV ks vs x v)) σ σ') (hz : ks.length ≤ 1000) (h : PU l σ') :
    ∀ b c, VR (.ref a) b → VR (.str x) c → As S D k env l σ (setItem b c y) PU := by
  rintro b c rfl ⟨t, rfl⟩ A h₀ s hr hst
  exact wp_setmap hst hat hz hv fun s' st' => ⟨(), l, σ', trivial, st', h⟩
theorem st_list {a : Addr} {vs : List V} {σ' : Store} {i : Int} {v : V} {y : Value} (hv : VR v y) (h0 : 0 ≤ i) (h1 : i < 2 ^ 62) (hi : i.toNat < vs.length) (hat : At a (.list vs) (.list (setN vs i.toNat v)) σ σ') (h : PU l σ') :
    ∀ b c, VR (.ref a) b → VR (.int i) c → As S D k env l σ (setItem b c y) PU := by
  rintro b c rfl ⟨t, rfl⟩ A h₀ s hr hst
  obtain ⟨m, F, lr⟩ := hst
  obtain ⟨o, ho, xs, n, rfl, hx⟩ := F.mem hat.mem
  have e := hx.len
  refine ki_setAt ho h0 (by omega) (by rw [List.size_toArray]; omega) ⟨(), l, σ', trivial, ⟨m, ?_, lr⟩, h⟩
  have ee : ∃ n', Obj.mapSeq (·.setIfInBounds i.toNat y) (W.listOf xs.toArray n) = W.listOf (setN xs i.toNat y).toArray n' := ⟨_, by
    simp only [Obj.mapSeq, W.listOf, setN_set, List.setIfInBounds_toArray]
    rfl⟩
  obtain ⟨n', ee⟩ := ee
  exact F.upd s.toks hat (x' := W.listOf (setN xs i.toNat y).toArray n') ⟨_, _, rfl, hx.set hv⟩ (by rw [Heap.get?_update_self _ ho (by rw [ee]; rfl), ee])
    (fun b x hb q => ((Heap.SameBut.update s.heap a (Obj.mapSeq (·.setIfInBounds i.toNat y))).2 b hb).trans q) (fun _ _ q => nomatch q)
end
end
end Mine
namespace Mine
open PySem PySem.W PySem.Calls PyProof.Rows
noncomputable section
section
variable {S : Sx} {D : Dx} {k : Nat} {env : Env} {l : List (Option V)} {σ : Store} {P : V → List (Option V) → Store → Prop} {PB : Bool → List (Option V) → Store → Prop} {PF : FV → List (Option V) → Store → Prop}
  {PU : List (Option V) → Store → Prop} {pos : Pos} {h₀ : Heap} {s : Shared} {L : Addr} {m : Str → Option Value}
def Out (PF : FV → List (Option V) → Store → Prop) (I : List (Option V) → Store → Prop) : FV → List (Option V) → Store → Prop
  | .next, l, σ => I l σ
  | .brk, l, σ => PF .next l σ
  | .ret v, l, σ => PF (.ret v) l σ
theorem x_while {test : Expr} {body : List Stmt} (I : Nat → List (Option V) → Store → Prop) (n : Nat) (h0 : I n l σ)
    (step : ∀ n l σ, I n l σ → Tv S D k env l σ (isTrue test env (eval test env)) fun b l₁ σ₁ => (b = true → Ex S D k env l₁ σ₁ (execs body env) (Out PF fun l₂ σ₂ => ∃ m, m < n ∧ I m l₂ σ₂)) ∧ (b = false → PF .next l₁ σ₁)) :
    Ex S D k env l σ (exec (.While test body [] pos) env) PF := by
  intro A h₀ s hr hst
  refine wpAny_While (codeAny_whileLoop (fun n s => ∃ l σ, St S D h₀ env l σ s ∧ I n l σ) ?_ n ⟨l, σ, hst, h0⟩)
  rintro n s₀ ⟨l₀, σ₀, st₀, hI⟩
  refine wpAny_mono (step n l₀ σ₀ hI A h₀ s₀ hr st₀) ?_ fun _ _ e => e.elim
  rintro c s₁ ⟨b, l₁, σ₁, rfl, st₁, q1, q2⟩
  cases b with
  | false =>
    simp only [Bool.false_eq_true, if_false]
    exact wpAny_execs_nil ⟨.next, l₁, σ₁, rfl, st₁, q2 rfl⟩
  | true =>
    simp only [if_true]
    refine wpAny_mono (q1 rfl A h₀ s₁ hr st₁) ?_ fun _ _ e => e.elim
    rintro f s₂ ⟨fv, l₂, σ₂, fr, st₂, q⟩
    cases fv with
    | next => cases (show f = .next from fr); obtain ⟨m', hm, hi⟩ := q; exact ⟨m', hm, l₂, σ₂, st₂, hi⟩
    | brk => cases (show f = .brk from fr); exact ⟨.next, l₂, σ₂, rfl, st₂, q⟩
    | ret v =>
      obtain ⟨x, rfl, hv⟩ := (show ∃ x, f = .ret x ∧ VR v x from fr)
      exact ⟨.ret v, l₂, σ₂, ⟨x, rfl, hv⟩, st₂, q⟩
theorem letGo_listiter {A : Around} {E : Value → Shared → Prop} {target : Expr} {I t : Addr} {i : Nat} {v : Value} {Q' : Unit → Shared → Prop} {s' : Shared} (hit : s'.heap.IsListIter I t i) (h : Q' () s') :
    wpAny (model S.prog D.w) A (letOwnedTupleGo target (.ref I) v) Q' E s' := by
  obtain ⟨o, ho, hc, hd⟩ := hit
  unfold letOwnedTupleGo
  cases target <;> first
    | exact wpAny_pure h
    | (cases v <;> first
        | exact wpAny_pure h
        | (refine wpAny_bind (wpAny_load ho ?_)
           rw [hc, hd]
           exact wpAny_pure h))
theorem letGo_rangeiter {A : Around} {E : Value → Shared → Prop} {target : Expr} {I : Addr} {a b c : Int} {v : Value} {Q' : Unit → Shared → Prop} {s' : Shared} (hit : IsRangeIter s'.heap I a b c) (h : Q' () s') :
    wpAny (model S.prog D.w) A (letOwnedTupleGo target (.ref I) v) Q' E s' := by
  unfold letOwnedTupleGo
  cases target <;> first
    | exact wpAny_pure h
    | (cases v <;> first
        | exact wpAny_pure h
        | (refine wpAny_bind (wpAny_load hit ?_)
           exact wpAny_pure h))
theorem b_range {n : Int} (h : ∀ r, P (.ref r) l (σ ++ [(r, .rng n)])) : ∀ xs, VRs [.int n] xs → Ev S D k env l σ (call (.type "range") xs) P := by
  intro xs hx
  obtain ⟨x, rfl, ⟨t, rfl⟩⟩ := VRs1 hx
  exact fun A h₀ s hr hst => call_range_1 ⟨_, _, _, vf, hst.push (o := .rng n) ⟨_, _, _, rfl⟩ rfl _, h _⟩
theorem x_forR {x : Str} {px : Pos} {iter : Expr} {body : List Stmt} (i : Nat)
    (h : Ev S D k env l σ (eval iter env) fun v l₁ σ₁ => ∃ r n, v = .ref r ∧ (r, O.rng n) ∈ σ₁ ∧ 0 ≤ n ∧ n ≤ 1000000 ∧ ∃ I : Nat → List (Option V) → Store → Prop, I 0 l₁ σ₁ ∧
      (∀ j l σ it, j < n.toNat → I j l σ → Ex S D k env (setN l i (some (.int j))) (σ ++ [(it, .rit (j + 1) (n - j - 1))]) (execs body env) (Out PF fun l₂ σ₂ => ∃ σ', Sub (σ' ++ [(it, .rit (j + 1) (n - j - 1))]) σ₂ ∧ I (j + 1) l₂ σ')) ∧
      (∀ l σ, I n.toNat l σ → PF .next l σ))
    (hs : isLoc env.scope x i = true := by kernel_rfl) (hf : ∀ x, foldedSetIterable iter env x = pure x := by intro _; rfl) : Ex S D k env l σ (exec (.For (.Name x px) iter body [] pos) env) PF := by
  intro A h₀ s hr hst
  refine wpAny_For (wpAny_mono (h A h₀ s hr hst) ?_ fun _ _ e => e) hf
  rintro y s₁ ⟨v, l₁, σ₁, r₁, st₁, r, n, rfl, hm, hn0, hn, I, i0, step, fin⟩
  cases (show y = .ref r from r₁)
  obtain ⟨m, F, lr⟩ := id st₁
  obtain ⟨o, ho, t, u, w, rfl⟩ := F.mem hm
  have hsz : Builtin.Range.rangeSize 0 n 1 = (n.toNat : Int) := by rw [rangeSize_one]; split <;> omega
  have sm : Builtin.Range.small 0 n 1 = true := small_one (by omega) (by omega) (by omega) (by omega)
  refine wpAny_pyIter_range ho sm ?_
  rw [hsz]
  have st₂ := st₁.push (o := .rit 0 n.toNat) (x := { cls := .type "range_iterator", data := .fields #[rawInt 0, rawInt n.toNat, rawInt 1] }) rfl rfl s₁.toks
  refine codeAny_forLoop_any (fun kk s => ∃ j l σ, j + kk = n.toNat ∧ St S D h₀ env l (σ ++ [(s₁.heap.objs.size, .rit j (n.toNat - j))]) s ∧ I j l σ) ?_ n.toNat ⟨0, l₁, σ₁, by omega, by simpa using st₂, i0⟩
  rintro kk s₃ ⟨j, l₃, σ₃, hj, st₃, hI⟩
  obtain ⟨m₃, F₃, lr₃⟩ := id st₃
  obtain ⟨oi, hoi, rfl⟩ := F₃.mem (a := s₁.heap.objs.size) (o := .rit j (n.toNat - j)) (by simp)
  by_cases hlt : j < n.toNat
  · refine wpAny_pyNext_range_item hoi (by omega) fun h' hit hsb => ?_
    have e1 : (n.toNat : Int) - j - 1 = n.toNat - (j + 1 : Nat) := by omega
    have F₄ : FS S D h₀ env.locals m₃ (σ₃ ++ [(s₁.heap.objs.size, .rit (j + 1) (n - j - 1))]) { s₃ with heap := h', toks := s₃.toks + 1 } :=
      F₃.upd (o := .rit j (n.toNat - j)) (o' := .rit (j + 1) (n - j - 1)) _ (.app .head) (x' := { cls := .type "range_iterator", dict := none, data := .fields #[rawInt (j + 1), rawInt (n - j - 1), rawInt 1], slots := #[] }) rfl
        (by rw [show n - (j : Int) - 1 = n.toNat - j - 1 by omega]; exact hit) (fun b x hb e => (hsb.2 b hb).trans e) fun _ _ q => nomatch q
    refine letGo_rangeiter hit ?_
    refine wpAny_assign_Name (wp_store (v := .int j) ⟨m₃, F₄, lr₃⟩ hs vi fun s₅ st₅ => ?_)
    refine wpAny_mono (step j l₃ σ₃ _ hlt hI A h₀ s₅ hr st₅) ?_ fun _ _ e => e.elim
    rintro f s₆ ⟨fv, l₆, σ₆, fr, st₆, q⟩
    cases fv with
    | next =>
      cases (show f = .next from fr)
      obtain ⟨σ', sb, hi⟩ := q
      refine ⟨kk - 1, by omega, j + 1, l₆, σ', by omega, ?_, hi⟩
      have := st₆.sub sb
      rw [show n - (j : Int) - 1 = n.toNat - (j + 1 : Nat) by omega] at this
      exact this
    | brk => cases (show f = .brk from fr); exact ⟨.next, l₆, σ₆, rfl, st₆, q⟩
    | ret v =>
      obtain ⟨x, rfl, hv⟩ := (show ∃ x, f = .ret x ∧ VR v x from fr)
      exact ⟨.ret v, l₆, σ₆, ⟨x, rfl, hv⟩, st₆, q⟩
  · have ej : j = n.toNat := by omega
    refine wpAny_pyNext_range_end hr.1.1 hoi (by omega) fun h' he => wpAny_execs_nil ⟨.next, l₃, σ₃, rfl, ⟨m₃, ?_, lr₃⟩, fin l₃ σ₃ (ej ▸ hI)⟩
    have := F₃.lose (p := σ₃) (q := []) (h' := h') s₃.toks fun b x hb e => he b x hb e
    rwa [List.append_nil] at this
theorem x_forL {target : Expr} {iter : Expr} {body : List Stmt}
    (h : Ev S D k env l σ (eval iter env) fun v l₁ σ₁ => ∃ r vs, v = .ref r ∧ ∃ I : Nat → List (Option V) → Store → Prop, (r, O.list vs) ∈ σ₁ ∧ I 0 l₁ σ₁ ∧ (∀ j l σ, I j l σ → (r, O.list vs) ∈ σ) ∧
      (∀ j l σ it, j < vs.length → I j l σ → ∀ v, nth vs j = some v → ∀ y, VR v y → As S D k env l (σ ++ [(it, .lit r (j + 1))]) (assign target env y) fun l₁ σ₁ => Ex S D k env l₁ σ₁ (execs body env) (Out PF fun l₂ σ₂ => ∃ σ', Sub (σ' ++ [(it, .lit r (j + 1))]) σ₂ ∧ I (j + 1) l₂ σ')) ∧
      (∀ l σ, I vs.length l σ → PF .next l σ))
    (hf : ∀ x, foldedSetIterable iter env x = pure x := by intro _; rfl) : Ex S D k env l σ (exec (.For target iter body [] pos) env) PF := by
  intro A h₀ s hr hst
  refine wpAny_For (wpAny_mono (h A h₀ s hr hst) ?_ fun _ _ e => e) hf
  rintro y s₁ ⟨v, l₁, σ₁, r₁, st₁, r, vs, rfl, I, hm, i0, hin, step, fin⟩
  cases (show y = .ref r from r₁)
  obtain ⟨m, F, lr⟩ := id st₁
  obtain ⟨xs, hl, hv⟩ := F.list hm
  refine wpAny_pyIter_list hl ?_
  have st₂ := st₁.push (o := .lit r 0) (x := { cls := .type "list_iterator", data := .fields #[.ref r, .int 0 0] }) ⟨rfl, rfl⟩ rfl s₁.toks
  refine codeAny_forLoop_any (fun kk s => ∃ j l σ, j + kk = vs.length ∧ St S D h₀ env l (σ ++ [(s₁.heap.objs.size, .lit r j)]) s ∧ I j l σ) ?_ vs.length ⟨0, l₁, σ₁, by omega, st₂, i0⟩
  rintro kk s₃ ⟨j, l₃, σ₃, hj, st₃, hI⟩
  obtain ⟨m₃, F₃, lr₃⟩ := id st₃
  obtain ⟨oi, hoi, hc, hd⟩ := F₃.mem (a := s₁.heap.objs.size) (o := .lit r j) (by simp)
  obtain ⟨ys, hly, hvy⟩ := F₃.list (List.mem_append_left _ (hin j l₃ σ₃ hI))
  by_cases hlt : j < vs.length
  · obtain ⟨v, hv'⟩ : ∃ v, nth vs j = some v := ⟨vs[j], by rw [nth_get]; simp [hlt]⟩
    obtain ⟨y, hy, ry⟩ := hvy.nth hv'
    rw [nth_get] at hy
    refine wpAny_pyNext_list_item ⟨oi, hoi, hc, hd⟩ hly (x := y) (by simpa using hy) fun h' hit hsb => ?_
    obtain ⟨o', ho', hc', hd'⟩ := id hit
    have F₄ : FS S D h₀ env.locals m₃ (σ₃ ++ [(s₁.heap.objs.size, .lit r (j + 1))]) { s₃ with heap := h' } :=
      F₃.upd (o := .lit r j) (o' := .lit r (j + 1)) s₃.toks (.app .head) (x' := o') ⟨hc', hd'⟩ ho' (fun b x hb e => (hsb.2 b hb).trans e) fun _ _ q => nomatch q
    refine letGo_listiter hit ?_
    refine wpAny_mono (step j l₃ σ₃ _ hlt hI v hv' y ry A h₀ _ hr ⟨m₃, F₄, lr₃⟩) ?_ fun _ _ e => e.elim
    rintro _ s₅ ⟨_, l₅, σ₅, _, st₅, q⟩
    refine wpAny_mono (q A h₀ s₅ hr st₅) ?_ fun _ _ e => e.elim
    rintro f s₆ ⟨fv, l₆, σ₆, fr, st₆, q⟩
    cases fv with
    | next =>
      cases (show f = .next from fr)
      obtain ⟨σ', sb, hi⟩ := q
      exact ⟨kk - 1, by omega, j + 1, l₆, σ', by omega, st₆.sub sb, hi⟩
    | brk => cases (show f = .brk from fr); exact ⟨.next, l₆, σ₆, rfl, st₆, q⟩
    | ret v =>
      obtain ⟨x, rfl, hv⟩ := (show ∃ x, f = .ret x ∧ VR v x from fr)
      exact ⟨.ret v, l₆, σ₆, ⟨x, rfl, hv⟩, st₆, q⟩
  · have ej : j = vs.length := by omega
    refine wpAny_pyNext_list_end hr.1.1 ⟨oi, hoi, hc, hd⟩ hly (by have := hvy.len; simp; omega) fun h' he => wpAny_execs_nil ⟨.next, l₃, σ₃, rfl, ⟨m₃, ?_, lr₃⟩, fin l₃ σ₃ (ej ▸ hI)⟩
    have := F₃.lose (p := σ₃) (q := []) (h' := h') s₃.toks fun b x hb e => he b x hb e
    rwa [List.append_nil] at this
theorem FS.setl (F : FS S D h₀ L m σ s) {a : Addr} {vs vs' : List V} {xs' : List Value} {n' : Nat} {σ' : Store} {h' : Heap} (hat : At a (.list vs) (.list vs') σ σ') (hv : VRs vs' xs') (ho : h'.get? a = some (W.listOf xs'.toArray n')) (hs : Heap.SameBut a s.heap h') (tk : Nat) :
    FS S D h₀ L m σ' { s with heap := h', toks := tk } :=
  F.upd tk hat ⟨xs', n', rfl, hv⟩ ho (fun b x hb e => (hs.2 b hb).trans e) fun _ _ q => nomatch q
theorem e_append {o : Expr} {apos : Pos} {arg : Expr} {pl : Sem Bool}
    (h : Ev S D k env l σ (eval o env) fun v l₁ σ₁ => ∃ a vs₀, v = .ref a ∧ (a, O.list vs₀) ∈ σ₁ ∧ Evs S D k env l₁ σ₁ (spliced (backTo pos (starEach [arg] env))) fun as l₂ σ₂ => ∃ u vs σ₃, as = [u] ∧ At a (.list vs) (.list (vs ++ [u])) σ₂ σ₃ ∧ vs.length ≤ 1000 ∧ P .none l₂ σ₃)
    (he : eval (.Call (.Attribute o "append" apos) [arg] [] pos) env = (do
      let ov ← eval o env
      standAt apos.atName
      let (f, first) ← holding [ov] (getMethod ov "append" pl)
      callWith pos f first (backTo pos (starEach [arg] env)) []) := by rfl)
    (ha : starEach [arg] env = (false, eval arg env) :: starEach [] env := by rfl) :
    Ev S D k env l σ (eval (.Call (.Attribute o "append" apos) [arg] [] pos) env) P := by
  intro A h₀ s hr hst
  refine MethodCall_ (wpAny_mono (h A h₀ s hr hst) ?_ fun _ _ e => e) he
  rintro x s₁ ⟨v₁, l₁, σ₁, r₁, st₁, a, vs₀, rfl, hm, q⟩
  cases (show x = .ref a from r₁)
  obtain ⟨m, F, lr⟩ := id st₁
  obtain ⟨o₁, ho₁, xs₁, n₁, rfl, hv₁⟩ := F.mem hm
  refine Calls.getMethod_list_append ho₁ rfl rfl ?_
  refine callWith_method1 (wpAny_mono (q A h₀ s₁ hr st₁) ?_ fun _ _ e => e) ha
  rintro ys s₂ ⟨as, l₂, σ₂, r₂, st₂, u, vs, σ₃, rfl, hat, hl, p⟩
  obtain ⟨y, rfl, ry⟩ := VRs1 r₂
  obtain ⟨m₂, F₂, lr₂⟩ := id st₂
  obtain ⟨o₂, ho₂, xs₂, n₂, rfl, hv₂⟩ := F₂.mem hat.mem
  refine append_at ho₂ (fun h' hs ho' => ⟨.none, l₂, σ₃, rfl, ⟨m₂, ?_, lr₂⟩, p⟩) (by have := hv₂.len; rw [List.size_toArray, sizeLine_eq]; omega)
  refine F₂.setl (xs' := xs₂ ++ [y]) (n' := n₂ + 1) hat (hv₂.app ⟨ry, trivial⟩) ?_ hs _
  rw [ho']
  simp [W.listOf]
end
end
end Mine
namespace Mine
open PySem PySem.W PySem.Calls PyProof.Rows
noncomputable section
section
variable {S : Sx} {D : Dx} {k : Nat} {env : Env} {l : List (Option V)} {σ : Store} {P : V → List (Option V) → Store → Prop} {PB : Bool → List (Option V) → Store → Prop} {PF : FV → List (Option V) → Store → Prop}
  {PU : List (Option V) → Store → Prop} {pos : Pos} {h₀ : Heap} {s : Shared} {L : Addr} {m : Str → Option Value}
structure IterOk (S : Sx) (D : Dx) (n : Nat) (item : Nat → V) (mk : Nat → O) (need : Store → Prop) : Prop where
  next : ∀ (A : Around) (h₀ : Heap) (L : Addr) (m : Str → Option Value) (σ : Store) (s : Shared) (it : Addr) (j : Nat) (Q : Option Value → Shared → Prop) (E : Value → Shared → Prop), A.handled = none → j < n → need σ → FS S D h₀ L m (σ ++ [(it, mk j)]) s →
    (∀ y h' tk, VR (item j) y → FS S D h₀ L m (σ ++ [(it, mk (j + 1))]) { s with heap := h', toks := tk } → Q (some y) { s with heap := h', toks := tk }) → wpAny (model S.prog D.w) A (pyNext (.ref it)) Q E s
  done : ∀ (A : Around) (h₀ : Heap) (L : Addr) (m : Str → Option Value) (σ : Store) (s : Shared) (it : Addr) (Q : Option Value → Shared → Prop) (E : Value → Shared → Prop), A.handled = none → need σ → FS S D h₀ L m (σ ++ [(it, mk n)]) s →
    (∀ h' tk, FS S D h₀ L m σ { s with heap := h', toks := tk } → Q none { s with heap := h', toks := tk }) → wpAny (model S.prog D.w) A (pyNext (.ref it)) Q E s
  go : ∀ (A : Around) (h₀ : Heap) (L : Addr) (m : Str → Option Value) (σ : Store) (s : Shared) (it : Addr) (j : Nat) (target : Expr) (y : Value) (Q : Unit → Shared → Prop) (E : Value → Shared → Prop), FS S D h₀ L m (σ ++ [(it, mk j)]) s → Q () s →
    wpAny (model S.prog D.w) A (letOwnedTupleGo target (.ref it) y) Q E s
  self : ∀ (A : Around) (h₀ : Heap) (L : Addr) (m : Str → Option Value) (σ : Store) (s : Shared) (it : Addr) (j : Nat) (Q : Value → Shared → Prop) (E : Value → Shared → Prop), (it, mk j) ∈ σ → FS S D h₀ L m σ s → Q (.ref it) s →
    wpAny (model S.prog D.w) A (pyIter (.ref it)) Q E s
theorem iter_range (n : Nat) : IterOk S D n (fun j => .int j) (fun j => .rit j (n - j)) (fun _ => True) where
  next := by
    intro A h₀ L m σ s it j Q E hh hj _ F h
    obtain ⟨o, ho, rfl⟩ := F.mem (a := it) (o := .rit j (n - j)) (by simp)
    refine wpAny_pyNext_range_item ho (by omega) fun h' hit hsb => h _ h' _ vi ?_
    exact F.upd (o := .rit j (n - j)) (o' := .rit (j + 1 : Nat) (n - (j + 1 : Nat))) _ (.app .head) (x' := { cls := .type "range_iterator", dict := none, data := .fields #[rawInt (j + 1), rawInt (n - j - 1), rawInt 1], slots := #[] })
      (by show _ = _; rw [show (n : Int) - j - 1 = n - (j + 1 : Nat) by omega]; rfl) hit (fun b x hb e => (hsb.2 b hb).trans e) fun _ _ q => nomatch q
  done := by
    intro A h₀ L m σ s it Q E hh _ F h
    obtain ⟨o, ho, rfl⟩ := F.mem (a := it) (o := .rit n (n - n)) (by simp)
    refine wpAny_pyNext_range_end hh ho (by omega) fun h' he => h h' s.toks ?_
    have := F.lose (p := σ) (q := []) (h' := h') s.toks fun b x hb e => he b x hb e
    rwa [List.append_nil] at this
  go := by
    intro A h₀ L m σ s it j target y Q E F h
    obtain ⟨o, ho, rfl⟩ := F.mem (a := it) (o := .rit j (n - j)) (by simp)
    exact letGo_rangeiter ho h
  self := by
    intro A h₀ L m σ s it j Q E hm F h
    obtain ⟨o, ho, rfl⟩ := F.mem hm
    exact wpAny_pyIter_rangeiter ho h
theorem iter_list (r : Addr) (vs : List V) (item : Nat → V) (hi : ∀ j, j < vs.length → nth vs j = some (item j)) : IterOk S D vs.length item (fun j => .lit r j) (fun σ => (r, O.list vs) ∈ σ) where
  next := by
    intro A h₀ L m σ s it j Q E hh hj hn F h
    obtain ⟨o, ho, hc, hd⟩ := F.mem (a := it) (o := .lit r j) (by simp)
    obtain ⟨ys, hly, hvy⟩ := F.list (List.mem_append_left _ hn)
    obtain ⟨y, hy, ry⟩ := hvy.nth (hi j hj)
    rw [nth_get] at hy
    refine wpAny_pyNext_list_item ⟨o, ho, hc, hd⟩ hly (x := y) (by simpa using hy) fun h' hit hsb => h y h' s.toks ry ?_
    obtain ⟨o', ho', hc', hd'⟩ := id hit
    exact F.upd (o := .lit r j) (o' := .lit r (j + 1)) s.toks (.app .head) (x' := o') ⟨hc', hd'⟩ ho' (fun b x hb e => (hsb.2 b hb).trans e) fun _ _ q => nomatch q
  done := by
    intro A h₀ L m σ s it Q E hh hn F h
    obtain ⟨o, ho, hc, hd⟩ := F.mem (a := it) (o := .lit r vs.length) (by simp)
    obtain ⟨ys, hly, hvy⟩ := F.list (List.mem_append_left _ hn)
    refine wpAny_pyNext_list_end hh ⟨o, ho, hc, hd⟩ hly (by have := hvy.len; simp; omega) fun h' he => h h' s.toks ?_
    have := F.lose (p := σ) (q := []) (h' := h') s.toks fun b x hb e => he b x hb e
    rwa [List.append_nil] at this
  go := by
    intro A h₀ L m σ s it j target y Q E F h
    obtain ⟨o, ho, hc, hd⟩ := F.mem (a := it) (o := .lit r j) (by simp)
    exact letGo_listiter ⟨o, ho, hc, hd⟩ h
  self := by
    intro A h₀ L m σ s it j Q E hm F h
    obtain ⟨o, ho, hc, hd⟩ := F.mem hm
    exact wpAny_pyIter_listiter ⟨o, ho, hc, hd⟩ h
theorem compLoop_G {prog : Program} {w : World} {A : Around} {s : Shared} {elt target iter : Expr} {ifs : List Expr} {scope : Scope} {pos : Pos} {it acc : Value} {env : Env} {R : Result → Shared → Prop} (I : Nat → Shared → Prop)
    (turn : ∀ n s, I n s → wpAny (model prog w) A (pyNext it) (fun r s₁ => match r with
      | none => R (.ok .next) s₁
      | some v => wpAny (model prog w) A (letOwnedTupleGo target it v) (fun _ s₁' => wpAny (model prog w) A (assign target env v) (fun _ s₂ =>
          wpAny (model prog w) A (forIn ifs true fun c r => if r = true then do let ok ← isTrue c env (eval c env); pure (ForInStep.yield ok) else pure (ForInStep.yield r)) (fun ok s₃ =>
            if ok = true then wpAny (model prog w) A (eval elt env) (fun x s₄ =>
              wpAny (model prog w) A (call (.builtin "list.append") [acc, x]) (fun _ s₅ => ∃ m, m < n ∧ I m s₅) (notedBy (model prog w) A env fun e s' => R (.error e) s') s₄) (notedBy (model prog w) A env fun e s' => R (.error e) s') s₃
            else ∃ m, m < n ∧ I m s₃) (notedBy (model prog w) A env fun e s' => R (.error e) s') s₂) (notedBy (model prog w) A env fun e s' => R (.error e) s') s₁') (notedBy (model prog w) A env fun e s' => R (.error e) s') s₁) (notedBy (model prog w) A env fun e s' => R (.error e) s') s)
    (n : Nat) (h : I n s) : codeAny (model prog w) A (.compLoop (.ListComp elt [⟨target, iter, ifs, 0⟩] scope pos) 0 it acc env) R s := by
  refine codeAny_loop rfl I (fun n s hI => ?_) n h
  show wpAny _ A ((compTurn (.ListComp elt [⟨target, iter, ifs, 0⟩] scope pos) 0 it acc env).onRaise (fun x => do noteFrame x env; theTreesLotGoes x)) _ _ s
  refine wpAny_noted ?_
  rw [compTurn_list]
  refine wpAny_bind (wpAny_standAt (wpAny_bind (wpAny_mono (turn n s hI) (fun r s₁ h₁ => ?_) fun _ _ h' => h')))
  cases r with
  | none => exact wpAny_pure h₁
  | some v =>
    refine wpAny_bind (wpAny_mono h₁ (fun _ s₁' h₁' => ?_) fun _ _ h' => h')
    refine wpAny_bind (wpAny_mono h₁' (fun _ s₂ h₂ => wpAny_bind (wpAny_mono h₂ (fun ok s₃ h₃ => ?_) fun _ _ h' => h')) fun _ _ h' => h')
    cases ok with
    | false => exact wpAny_pure ⟨rfl, h₃⟩
    | true =>
      exact wpAny_bind (wpAny_bind (wpAny_mono h₃ (fun x s₄ h₄ => wpAny_bind (wpAny_mono h₄ (fun _ s₅ h₅ => wpAny_pure (wpAny_pure ⟨rfl, h₅⟩)) fun _ _ h' => h')) fun _ _ h' => h'))
def tests (ifs : List Expr) (env : Env) : Sem Bool := forIn ifs true fun c r => if r = true then do let ok ← isTrue c env (eval c env); pure (ForInStep.yield ok) else pure (ForInStep.yield r)
theorem t_none (h : PB true l σ) : Tv S D k env l σ (tests [] env) PB := fun _ _ _ _ hst => wpAny_tests_nil ⟨true, l, σ, rfl, hst, h⟩
theorem t_one {c : Expr} (h : Tv S D k env l σ (isTrue c env (eval c env)) PB) : Tv S D k env l σ (tests [c] env) PB := fun A h₀ s hr hst => wpAny_tests_one (h A h₀ s hr hst)
def CompI (S : Sx) (D : Dx) (k : Nat) (env : Env) (elt target : Expr) (ifs : List Expr) (scope : Scope) (cl : List (Str × Addr)) (n : Nat) (item : Nat → V) (mk : Nat → O) (need : Store → Prop) (σ₁ : Store) (Fin : Addr → Store → Prop) : Prop :=
  ∃ I : Nat → List V → List (Option V) → Store → Prop, I 0 [] (List.replicate scope.names.length none) σ₁ ∧ (∀ j done lc σ, I j done lc σ → need σ) ∧
    (∀ j done lc σ it a C, j < n → I j done lc σ → ∀ y, VR (item j) y →
      As S D k (compEnvC scope cl C env) lc (σ ++ [(it, mk (j + 1)), (a, .list done)]) (assign target (compEnvC scope cl C env) y) fun l₁ σ₁ =>
        Tv S D k (compEnvC scope cl C env) l₁ σ₁ (tests ifs (compEnvC scope cl C env)) fun ok l₂ σ₂ =>
          (ok = true → Ev S D k (compEnvC scope cl C env) l₂ σ₂ (eval elt (compEnvC scope cl C env)) fun u l₃ σ₃ => ∃ σ', Sub (σ' ++ [(it, mk (j + 1)), (a, .list done)]) σ₃ ∧ I (j + 1) (done ++ [u]) l₃ σ') ∧
          (ok = false → ∃ σ', Sub (σ' ++ [(it, mk (j + 1)), (a, .list done)]) σ₂ ∧ I (j + 1) done l₂ σ')) ∧
    (∀ done lc σ a, I n done lc σ → Fin a (σ ++ [(a, .list done)]))
theorem FS.but {h₀ : Heap} {L : Addr} {m : Str → Option Value} {s : Shared} (F : FS S D h₀ L m σ s) {C : Addr} (hL : C ≠ L) (h0 : h₀.get? C = none) (hC : C ∉ σ.map (·.1)) {h' : Heap} (hk : ∀ b x, b ≠ C → s.heap.get? b = some x → h'.get? b = some x) :
    FS S D h₀ L m σ { s with heap := h' } := by
  obtain ⟨n, N1, r⟩ := F.nw
  obtain ⟨oL, es, ep, hLL, rest⟩ := F.fr.ns
  refine ⟨⟨⟨oL, es, ep, hk _ _ (Ne.symm hL) hLL, rest⟩, fun b o e => hk b o (fun q => by rw [q, h0] at e; cases e) (F.fr.keep b o e), F.fr.above⟩, ⟨n, fun p hp => ⟨hk _ _ ?_ (N1 p hp).1, (N1 p hp).2⟩, r⟩, F.nd, F.hi, F.base, F.fix⟩
  intro e
  apply hC
  rw [← NR.keys r, ← e]
  exact List.mem_map_of_mem hp
theorem FS.away {h₀ : Heap} {L : Addr} {m : Str → Option Value} {s : Shared} (F : FS S D h₀ L m σ s) : L ∉ σ.map (·.1) := by
  obtain ⟨n, N1, r⟩ := F.nw
  rw [← NR.keys r]
  intro hm
  obtain ⟨p, hp, e⟩ := List.mem_map.mp hm
  exact (N1 p hp).2.1 e
theorem comp_block {elt target iter : Expr} {ifs : List Expr} {scope : Scope} {cl : List (Str × Addr)} {n : Nat} {item : Nat → V} {mk : Nat → O} {need : Store → Prop} {A : Around} {E : Value → Shared → Prop} {it : Addr} {RR : Value → Addr → Result → Shared → Prop} {Fin : Addr → Store → Prop}
    (ok : IterOk S D n item mk need) (hne : ∀ σ φ, need σ → need (σ ++ φ)) (hn : n ≤ 1000) (hI : CompI S D k env elt target ifs scope cl n item mk need σ Fin) (hr : Room k A) (hst : St S D h₀ env l (σ ++ [(it, mk 0)]) s)
    (hcell : ∀ y ∈ scope.names, y.2 ≠ .cell) (hkind : scope.kind = .function)
    (hRR : ∀ a C σ' s', Fin a σ' → (∃ m', s'.heap.Ns C m') → C ≠ env.locals → h₀.get? C = none → C ∉ σ'.map (·.1) → St S D h₀ env l σ' s' → RR (.ref a) C (.ok .next) s') :
    wpAny (model S.prog D.w) A (newList []) (fun acc s₃ => wpAny (model S.prog D.w) A (newFunctionEnv scope env.globals cl [] env.qual none .none (some env)) (fun cenv s₄ =>
      codeAny (model S.prog D.w) A (.compStart (.ListComp elt [⟨target, iter, ifs, 0⟩] scope pos) 0 (.ref it) acc { cenv with scope := relabel scope env }) (RR acc cenv.locals) s₄) E s₃) E s := by
  refine wpAny_newList ?_ (by decide)
  have st₁ := hst.push (o := .list []) (x := { cls := .type "list", data := .seq ([] : List Value).toArray }) ⟨[], 0, rfl, trivial⟩ rfl s.toks
  obtain ⟨m, F, lr⟩ := st₁
  obtain ⟨news, N, r⟩ := F.nw
  have eacc : s.heap.objs.size = s.heap.objs.size := rfl
  generalize s.heap.objs.size = a at F r ⊢
  clear eacc
  refine wpAny_newFunctionEnv hcell (by intro y hy; simp at hy) (fun h₁ hns hsb => ?_) hkind
  generalize hH : s.heap.push { cls := .type "list", dict := none, data := .seq ([] : List Value).toArray } = H at F N hns hsb ⊢
  have X : (S.K D.w.params).In H := F.k
  have hk₁ : ∀ b o, H.get? b = some o → h₁.get? b = some o := fun b o e => (hsb.2 b (Nat.ne_of_lt (Heap.lt_size e))).trans (Heap.get?_push_of_some _ e)
  have FG : Fr (hideAll H (news.map (·.1))) H.objs.size h₁ (fun x => ([] : List (Str × Value)).reverse.lookup x) := ⟨hns, fun b o e => hk₁ b o (of_hideAll _ e), Nat.le_of_eq (hideAll_size _ _)⟩
  have NG : News (hideAll H (news.map (·.1))) H.objs.size h₁ news := fun p hp => ⟨hk₁ _ _ (N p hp).1, Nat.ne_of_lt (Heap.lt_size (N p hp).1), hideAll_none _ (List.mem_map_of_mem hp)⟩
  have st : ∀ b o, h₀.get? b = some o → (hideAll H (news.map (·.1))).get? b = some o := fun b o e => hideAll_get _ (F.fr.keep b o e) fun q => by
    obtain ⟨p, hp, rfl⟩ := List.mem_map.mp q
    rw [(N p hp).2.2] at e; cases e
  have BG : Base S D (hideAll H (news.map (·.1))) := ⟨F.base.inn.keeps st, F.base.top.keeps st, F.base.scr.at fun o e => st _ o e, F.base.seer.keeps st⟩
  have CL : H.objs.size ≠ env.locals := by
    obtain ⟨oL, es, ep, hL, _⟩ := F.fr.ns
    exact fun e => absurd (Heap.lt_size hL) (by show ¬ env.locals < H.objs.size; rw [e]; exact Nat.lt_irrefl _)
  have C0 : h₀.get? H.objs.size = none := by
    cases q : h₀.get? H.objs.size with
    | none => rfl
    | some o => exact absurd (Heap.lt_size (F.fr.keep _ _ q)) (Nat.lt_irrefl _)
  have FF : FS S D (hideAll H (news.map (·.1))) H.objs.size (fun x => ([] : List (Str × Value)).reverse.lookup x) (σ ++ [(it, mk 0)] ++ [(a, .list [])]) { s with heap := h₁, toks := s.toks + ([] : List (Str × Value)).length } :=
    ⟨FG, ⟨news, NG, r⟩, F.nd, F.hi, BG, F.fix⟩
  have LG : LR (relabel scope env).names (List.replicate scope.names.length none) (fun x => ([] : List (Str × Value)).reverse.lookup x) := fun i x v _ hv => by cases nth_rep hv
  have swapA : ∀ {σ : Store} {p q : Addr × O}, Sub ((σ ++ [q]) ++ [p]) (σ ++ [p, q]) := fun {σ p q} => ⟨[], by
    rw [List.append_nil, List.append_assoc]
    exact .append_left _ (.swap ..)⟩
  have swapB : ∀ {σ : Store} {p q : Addr × O}, Sub (σ ++ [p, q]) ((σ ++ [q]) ++ [p]) := fun {σ p q} => ⟨[], by
    rw [List.append_nil, List.append_assoc]
    exact .append_left _ (.swap ..)⟩
  rw [List.append_assoc] at FF
  obtain ⟨I, i0, ineed, step, fin⟩ := hI
  have loop : codeAny (model S.prog D.w) A (.compLoop (.ListComp elt [⟨target, iter, ifs, 0⟩] scope pos) 0 (.ref it) (.ref a) (compEnvC scope cl H.objs.size env)) (RR (.ref a) H.objs.size) { s with heap := h₁, toks := s.toks + ([] : List (Str × Value)).length } := by
    refine compLoop_G (fun kk s' => ∃ j done lc σ, j + kk = n ∧ done.length ≤ j ∧ St S D (hideAll H (news.map (·.1))) (compEnvC scope cl H.objs.size env) lc (σ ++ [(it, mk j), (a, .list done)]) s' ∧ I j done lc σ) ?_ n
      ⟨0, [], _, _, by omega, Nat.le_refl _, ⟨_, FF, LG⟩, i0⟩
    rintro kk s₃ ⟨j, done, lc, σ₃, hj, hdl, ⟨m₃, F₃, lr₃⟩, hI⟩
    have nd := hne _ [(a, O.list done)] (ineed _ _ _ _ hI)
    by_cases hlt : j < n
    · refine ok.next A _ _ _ _ s₃ it j _ _ hr.1.1 hlt nd (F₃.sub swapA) fun y h' tk ry F₄ => ?_
      refine ok.go A _ _ _ _ _ it (j + 1) target y _ _ F₄ ?_
      refine wpAny_mono (step j done lc σ₃ it a H.objs.size hlt hI y ry A _ _ hr ⟨m₃, F₄.sub swapB, lr₃⟩) ?_ fun _ _ e => e.elim
      rintro _ s₅ ⟨_, l₅, σ₅, _, st₅, q⟩
      refine wpAny_mono (q A _ s₅ hr st₅) ?_ fun _ _ e => e.elim
      rintro b s₆ ⟨bb, l₆, σ₆, rfl, st₆, q1, q2⟩
      cases bb with
      | false =>
        rw [if_neg (by decide)]
        obtain ⟨σ', sb, hi⟩ := q2 rfl
        exact ⟨kk - 1, by omega, j + 1, done, l₆, σ', by omega, by omega, st₆.sub sb, hi⟩
      | true =>
        rw [if_pos rfl]
        refine wpAny_mono (q1 rfl A _ s₆ hr st₆) ?_ fun _ _ e => e.elim
        rintro x s₇ ⟨u, l₇, σ₇, r₇, st₇, σ', sb, hi⟩
        obtain ⟨m₇, F₇, lr₇⟩ := st₇.sub sb
        obtain ⟨o₇, ho₇, xs₇, n₇, rfl, hv₇⟩ := F₇.mem (a := a) (o := .list done) (by simp)
        refine append_at ho₇ (fun h' hs ho' => ⟨kk - 1, by omega, j + 1, done ++ [u], l₇, σ', by omega, by simp; omega, ⟨m₇, ?_, lr₇⟩, hi⟩) (by have := hv₇.len; rw [List.size_toArray, sizeLine_eq]; omega)
        refine F₇.setl (vs := done) (vs' := done ++ [u]) (xs' := xs₇ ++ [x]) (n' := n₇ + 1) (.app (.tail .head)) (hv₇.app ⟨r₇, trivial⟩) ?_ hs s₇.toks
        rw [ho']
        simp [W.listOf]
    · have ej : j = n := by omega
      subst ej
      refine ok.done A _ _ _ _ s₃ it _ _ hr.1.1 nd (F₃.sub swapA) fun h' tk F₄ => ?_
      exact hRR a H.objs.size _ _ (fin done lc σ₃ a hI) ⟨_, F₄.fr.ns⟩ CL C0 F₄.away ⟨m, F.back N rfl F₄, lr⟩
  refine codeAny_compStart_list loop ?_
  exact ok.self A _ _ _ _ _ it 0 _ _ (by simp) FF loop
def CompSrc (S : Sx) (D : Dx) (k : Nat) (env : Env) (elt target : Expr) (ifs : List Expr) (scope : Scope) (cl : List (Str × Addr)) (v : V) (σ₁ : Store) (Fin : Addr → Store → Prop) : Prop :=
  (∃ r vs item, v = .ref r ∧ (r, O.list vs) ∈ σ₁ ∧ vs.length ≤ 1000 ∧ (∀ j, j < vs.length → nth vs j = some (item j)) ∧ CompI S D k env elt target ifs scope cl vs.length item (fun j => .lit r j) (fun σ => (r, O.list vs) ∈ σ) σ₁ Fin) ∨
  (∃ r n, v = .ref r ∧ (r, O.rng n) ∈ σ₁ ∧ 0 ≤ n ∧ n ≤ 1000 ∧ CompI S D k env elt target ifs scope cl n.toNat (fun j => .int j) (fun j => .rit j (n.toNat - j)) (fun _ => True) σ₁ Fin)
theorem comp_src {elt target iter : Expr} {ifs : List Expr} {scope : Scope} {cl : List (Str × Addr)} {A : Around} {E : Value → Shared → Prop} {v : V} {x : Value} {RR : Value → Addr → Result → Shared → Prop} {Fin : Addr → Store → Prop}
    (hsrc : CompSrc S D k env elt target ifs scope cl v σ Fin) (hx : VR v x) (hr : Room k A) (hst : St S D h₀ env l σ s)
    (hcell : ∀ y ∈ scope.names, y.2 ≠ .cell) (hkind : scope.kind = .function)
    (hRR : ∀ a C σ' s', Fin a σ' → (∃ m', s'.heap.Ns C m') → C ≠ env.locals → h₀.get? C = none → C ∉ σ'.map (·.1) → St S D h₀ env l σ' s' → RR (.ref a) C (.ok .next) s') :
    wpAny (model S.prog D.w) A (pyIter x) (fun it s₂ => wpAny (model S.prog D.w) A (newList []) (fun acc s₃ => wpAny (model S.prog D.w) A (newFunctionEnv scope env.globals cl [] env.qual none .none (some env)) (fun cenv s₄ =>
      codeAny (model S.prog D.w) A (.compStart (.ListComp elt [⟨target, iter, ifs, 0⟩] scope pos) 0 it acc { cenv with scope := relabel scope env }) (RR acc cenv.locals) s₄) E s₃) E s₂) E s := by
  obtain ⟨m, F, lr⟩ := id hst
  rcases hsrc with ⟨r, vs, item, rfl, hm, hl, hi, hc⟩ | ⟨r, n, rfl, hm, hn0, hn, hc⟩
  · cases (show x = .ref r from hx)
    obtain ⟨xs, hly, hv⟩ := F.list hm
    refine wpAny_pyIter_list hly ?_
    exact comp_block (iter_list r vs item hi) (fun σ φ h => List.mem_append_left _ h) hl hc hr (hst.push (o := .lit r 0) (x := { cls := .type "list_iterator", data := .fields #[.ref r, .int 0 0] }) ⟨rfl, rfl⟩ rfl s.toks) hcell hkind hRR
  · cases (show x = .ref r from hx)
    obtain ⟨o, ho, t, u, w, rfl⟩ := F.mem hm
    have hsz : Builtin.Range.rangeSize 0 n 1 = (n.toNat : Int) := by rw [rangeSize_one]; split <;> omega
    refine wpAny_pyIter_range ho (small_one (by omega) (by omega) (by omega) (by omega)) ?_
    rw [hsz]
    have st₂ := hst.push (o := .rit 0 n.toNat) (x := { cls := .type "range_iterator", data := .fields #[rawInt 0, rawInt n.toNat, rawInt 1] }) rfl rfl s.toks
    exact comp_block (iter_range n.toNat) (fun _ _ _ => trivial) (by omega) hc hr (by simpa using st₂) hcell hkind hRR
theorem e_comp {elt target iter : Expr} {ifs : List Expr} {scope : Scope} (cl : List (Str × Addr))
    (h : Ev S D k env l σ (eval iter env) fun v l₁ σ₁ => CompSrc S D k env elt target ifs scope cl v σ₁ fun a σ' => P (.ref a) l₁ σ')
    (hclos : closureFor scope env = pure cl := by rfl) (hcell : ∀ y ∈ scope.names, y.2 ≠ .cell := by decide) (hkind : scope.kind = .function := by rfl)
    (hnames : ∀ x ∈ scope.names, x.2 = .local → scope.names.lookup x.1 = some .local := by decide)
    (hs : ∀ x, foldedSetIterable iter env x = pure x := by intro _; rfl) : Ev S D k env l σ (eval (.ListComp elt [⟨target, iter, ifs, 0⟩] scope pos) env) P := by
  intro A h₀ s hr hst
  rw [eval_ListComp]
  refine wpAny_comprehension_free (use := none) rfl hs hclos hkind hnames (wpAny_mono (h A h₀ s hr hst) ?_ fun _ _ e => e)
  rintro x s₁ ⟨v, l₁, σ₁, r₁, st₁, src⟩
  refine comp_src (RR := fun acc C => compPost _ A _ none _ acc C) src r₁ hr st₁ hcell hkind fun a C σ' s' p ns ne h0 hC stC => ?_
  obtain ⟨m', hns⟩ := ns
  obtain ⟨m, F, lr⟩ := stC
  exact ⟨m', hns, fun h' hsb => ⟨.ref a, l₁, σ', rfl, ⟨m, F.but ne h0 hC fun b x hb e => (hsb.2 b hb).trans e, lr⟩, p⟩⟩
theorem x_assignC {x : Str} {p' : Pos} {elt target iter : Expr} {ifs : List Expr} {scope : Scope} {cpos : Pos} (i : Nat) (cl : List (Str × Addr))
    (h : Ev S D k env l σ (eval iter env) fun v l₁ σ₁ => CompSrc S D k env elt target ifs scope cl v σ₁ fun a σ' => PF .next (setN l₁ i (some (.ref a))) σ')
    (hi : isLoc env.scope x i = true := by kernel_rfl) (hsw : swapsWith (.ListComp elt [⟨target, iter, ifs, 0⟩] scope cpos) (some (.Name x p')) pos.line env = pure true := by rfl)
    (hclos : closureFor scope env = pure cl := by rfl) (hcell : ∀ y ∈ scope.names, y.2 ≠ .cell := by decide) (hkind : scope.kind = .function := by rfl)
    (hnames : ∀ x ∈ scope.names, x.2 = .local → scope.names.lookup x.1 = some .local := by decide)
    (hs : ∀ x, foldedSetIterable iter env x = pure x := by intro _; rfl) : Ex S D k env l σ (exec (.Assign [.Name x p'] (.ListComp elt [⟨target, iter, ifs, 0⟩] scope cpos) pos) env) PF := by
  intro A h₀ s hr hst
  rw [exec_Assign_Name_used _ _ _ _ hsw]
  refine wpAny_bind (wpAny_standAt (wpAny_bind ?_))
  show wpAny _ A (do let _ ← comprehension (.ListComp elt [⟨target, iter, ifs, 0⟩] scope cpos) scope env _ (newList []) false (eval iter env) (some (assign (.Name x p') env))) _ _ s
  refine wpAny_bind (wpAny_mono (wpAny_comprehension_free (use := some (assign (.Name x p') env)) (Q := fun _ s' => ∃ b l' σ', FR b .next ∧ St S D h₀ env l' σ' s' ∧ PF b l' σ') rfl hs hclos hkind hnames (wpAny_mono (h A h₀ s hr hst) ?_ fun _ _ e => e))
    (fun _ s' hq => wpAny_pure (wpAny_pure hq)) fun _ _ e => e)
  rintro x₁ s₁ ⟨v, l₁, σ₁, r₁, st₁, src⟩
  refine comp_src (RR := fun acc C => compPost _ A _ (some (assign (.Name x p') env)) _ acc C) src r₁ hr st₁ hcell hkind fun a C σ' s' p ns ne h0 hC stC => ?_
  obtain ⟨m', hns⟩ := ns
  obtain ⟨h1, h2, h3, h4⟩ := isLoc_of hi
  obtain ⟨m, F, lr⟩ := stC
  refine wpAny_assign_Name (wpAny_storeName_local h2 F.fr.ns (fun h₂ hn₂ hs₂ => ?_) (by rw [h1]; rfl))
  refine ⟨m', hns.sameBut hs₂ ne, fun h₃ hs₃ => ⟨.next, _, σ', rfl, ⟨_, FS.but (s := { s' with heap := h₂, toks := s'.toks + 1 }) ⟨F.fr.set hn₂ hs₂, ?_, F.nd, F.hi, F.base, F.fix⟩ ne h0 hC fun b x hb e => (hs₃.2 b hb).trans e, lr.set h3 (v := .ref a) rfl⟩, p⟩⟩
  obtain ⟨n, N, r⟩ := F.nw
  exact ⟨n, N.set hs₂, r⟩
end
end
end Mine
namespace Mine
open PySem PySem.W PySem.Calls PyProof.Rows
noncomputable section
section
variable {S : Sx} {D : Dx} {k : Nat} {env : Env} {l : List (Option V)} {σ : Store} {P : V → List (Option V) → Store → Prop} {PB : Bool → List (Option V) → Store → Prop} {PF : FV → List (Option V) → Store → Prop}
  {PU : List (Option V) → Store → Prop} {pos : Pos} {h₀ : Heap} {s : Shared} {L : Addr} {m : Str → Option Value} {e₁ e₂ e₃ : Expr}
theorem e_and {rest : List Expr} (h : Ev S D k env l σ (eval e₁ env) fun v l₁ σ₁ => ∃ a, v = .bool a ∧ (a = true → Ev S D k env l₁ σ₁ (eval (.BoolOp .And (e₂ :: rest) pos) env) P) ∧ (a = false → P (.bool false) l₁ σ₁)) :
    Ev S D k env l σ (eval (.BoolOp .And (e₁ :: e₂ :: rest) pos) env) P := by
  intro A h₀ s hr hst
  refine BoolOp_and (wpAny_mono (h A h₀ s hr hst) ?_ fun _ _ e => e)
  rintro c s₁ ⟨v', l₁, σ₁, r, st₁, a, rfl, q1, q2⟩
  cases (show c = .bool a from r)
  refine wpAny_truthy_bool ?_
  cases a with
  | false => exact ⟨.bool false, l₁, σ₁, rfl, st₁, q2 rfl⟩
  | true => exact q1 rfl A h₀ s₁ hr st₁
theorem e_or {rest : List Expr} (h : Ev S D k env l σ (eval e₁ env) fun v l₁ σ₁ => ∃ a, v = .bool a ∧ (a = false → Ev S D k env l₁ σ₁ (eval (.BoolOp .Or (e₂ :: rest) pos) env) P) ∧ (a = true → P (.bool true) l₁ σ₁)) :
    Ev S D k env l σ (eval (.BoolOp .Or (e₁ :: e₂ :: rest) pos) env) P := by
  intro A h₀ s hr hst
  refine BoolOp_or (wpAny_mono (h A h₀ s hr hst) ?_ fun _ _ e => e)
  rintro c s₁ ⟨v', l₁, σ₁, r, st₁, a, rfl, q1, q2⟩
  cases (show c = .bool a from r)
  refine wpAny_truthy_bool ?_
  cases a with
  | true => exact ⟨.bool true, l₁, σ₁, rfl, st₁, q2 rfl⟩
  | false => exact q1 rfl A h₀ s₁ hr st₁
def newOk (K : Frag) (C f : Addr) : Bool := makesIn K C && decide (findIn K (.ref C) "__init__" = some (some (.ref f))) && isFn K (.ref f) && keepIn K (.ref C)
theorem newOk_of {K : Frag} {C f : Addr} (h : newOk K C f = true) : makesIn K C = true ∧ findIn K (.ref C) "__init__" = some (some (.ref f)) ∧ isFn K (.ref f) = true ∧ keepIn K (.ref C) = true := by
  unfold newOk at h
  simp only [Bool.and_eq_true, decide_eq_true_eq] at h
  exact ⟨h.1.1.1, h.1.1.2, h.1.2, h.2⟩
theorem room_under {A : Around} {C : Addr} {vs : List Value} {kw : List (Str × Value)} (h : Room0 (k + 1) A) : Room0 k (A.under (.builtin "type.__call__" ⟨.ref C :: vs, kw⟩)) := by
  obtain ⟨h1, h2, h3, h4⟩ := h
  refine ⟨h1, ?_, ?_, h4⟩
  · show A.depth + 1 + 4 * k ≤ 700
    omega
  · show A.units + 1 + 50 * k ≤ 9000
    omega
theorem cl_new {C f : Addr} {args : List V} {PR : V → Store → Prop} (ok : newOk (S.K D.w.params) C f = true) (h : ∀ x dx, Cl S D k (.ref f) (.ref x :: args) (σ ++ [(dx, .dict [] []), (x, .inst C dx)]) fun v σ' => v = .none ∧ PR (.ref x) σ') :
    Cl S D (k + 1) (.ref C) args σ PR := by
  intro A h₀ L m s xs hr F hx
  obtain ⟨o1, o2, o3, o4⟩ := newOk_of ok
  have X := F.k
  obtain ⟨hh, g, d, t, os⟩ := s
  refine make_core (makes_of X o1) (looks_findIn X o2) (fun self => bind_fn X self (beq_iff_eq.mp o3)) (.inl rfl) ?_
  have F1 := F.push (x := emptyDict) (o := .dict [] []) ⟨[], 0, rfl, trivial⟩ rfl t
  have F2 := F1.push (x := instObj C hh.objs.size) (o := .inst C hh.objs.size) rfl rfl t
  have e1 : (hh.push emptyDict).objs.size = hh.objs.size + 1 := Heap.size_push _ _
  refine codeAny_mono (h (hh.objs.size + 1) hh.objs.size _ h₀ L m _ (.ref (hh.objs.size + 1) :: xs) (room_under hr) (by simpa [e1] using F2) ⟨rfl, hx⟩) ?_
  rintro r s' ⟨v, v', σ', rfl, hv, F', rfl, p⟩
  cases (show v' = .none from hv)
  exact ⟨rfl, .ref (hh.objs.size + 1), _, σ', rfl, rfl, F', p⟩
def clipN (n : Nat) : V → Nat → Nat
  | .int i, _ => clipAt n i
  | _, d => d
def isPart : V → Bool
  | .none => true
  | .int _ => true
  | _ => false
def bcut (b : List UInt8) (lo hi : V) : List UInt8 := (b.drop (clipN b.length lo 0)).take (clipN b.length hi b.length - clipN b.length lo 0)
theorem part_of {v : V} {x : Value} (h : isPart v = true) (hx : VR v x) : ∃ o, IsPart x o ∧ ∀ n d, o.elim d (clipAt n) = clipN n v d := by
  cases v with
  | none => cases hx; exact ⟨none, .none, fun _ _ => rfl⟩
  | int i => obtain ⟨t, rfl⟩ := hx; exact ⟨some i, .int i t, fun _ _ => rfl⟩
  | _ => cases h
theorem p_none (h : P .none l σ) : Ev S D k env l σ (evalPart none env) P := fun _ _ _ _ hst => by
  rw [evalPart_none]; exact wpAny_pure ⟨.none, l, σ, rfl, hst, h⟩
theorem p_some {e : Expr} (h : Ev S D k env l σ (eval e env) P) (he : evalPart (some e) env = eval e env := by rfl) : Ev S D k env l σ (evalPart (some e) env) P := by rw [he]; exact h
theorem e_cutB {value : Expr} {lower upper : Option Expr} {p : Pos} (h : Ev S D k env l σ (eval value env) fun v₁ l₁ σ₁ => Ev S D k env l₁ σ₁ (evalPart lower env) fun v₂ l₂ σ₂ => Ev S D k env l₂ σ₂ (evalPart upper env) fun v₃ l₃ σ₃ =>
      ∃ b, v₁ = .byt b ∧ isPart v₂ = true ∧ isPart v₃ = true ∧ b.length ≤ 1000000 ∧ P (.byt (bcut b v₂ v₃)) l₃ σ₃)
    (hs : ∀ b t a, subscripted (.Slice lower upper none p) false (.bytes b t) (.ref a) = operate [.ref a, .bytes b t] (getItem (.bytes b t) (.ref a)) := by (intro _ _ _; with_unfolding_all rfl))
    (ht : ∀ b t r, letTemporaryGo value (.bytes b t) r = pure () := by (intro _ _ _; with_unfolding_all rfl)) : Ev S D k env l σ (eval (.Subscript value (.Slice lower upper none p) pos) env) P := by
  intro A h₀ s hr hst
  refine Subscript_ (wpAny_mono (h A h₀ s hr hst) ?_ fun _ _ e => e)
  rintro x s₁ ⟨v₁, l₁, σ₁, r₁, st₁, q⟩
  refine wpAny_Slice (wpAny_mono (q A h₀ s₁ hr st₁) ?_ fun _ _ e => e)
  rintro y s₂ ⟨v₂, l₂, σ₂, r₂, st₂, q⟩
  refine wpAny_mono (q A h₀ s₂ hr st₂) ?_ fun _ _ e => e
  rintro z s₃ ⟨v₃, l₃, σ₃, r₃, st₃, b, rfl, h2, h3, hz, q⟩
  obtain ⟨t, rfl⟩ := r₁
  obtain ⟨lo, pl, el⟩ := part_of h2 r₂
  obtain ⟨hi, ph, eh⟩ := part_of h3 r₃
  rw [evalPart_none]
  refine wpAny_pure (tail_of_ItemOn ⟨"bytes", _, FB.slot_bytes_getitem.lookup, typeIs_bytes _ _ _, getItem_meets (typeIs_bytes _ _ _) (by decide) FB.slot_bytes_getitem FB.entry_bytes_getitem (FB.args_bytes_getitem_2 _ _) (KBc.meets_slice2 b.toArray t _ pl ph)
    ⟨Heap.IsSliceOf.new _ _ _ _, ?_, fun t' tk => ⟨.byt (bcut b v₂ v₃), l₃, σ₃, ⟨t', ?_⟩, st₃.ext tk fun b o e => Heap.get?_push_of_some _ e, q⟩⟩⟩ (hs _ _ _) fun r => ht _ _ r)
  · refine Nat.le_trans (KBc.size_picked_le b.toArray lo hi) ?_
    rw [sizeLine_eq, List.size_toArray]; omega
  · rw [KBc.picked_eq]
    unfold bcut
    simp only [List.size_toArray, el, eh]
theorem y_bytes_bytes : typeLookup (.type "bytes") "__bytes__" = pure (some (.builtin "bytes.__bytes__")) := by rw [typeLookup_type, builtinLookup_eq_fast]; kernel_rfl
theorem y_int_bytes : typeLookup (.type "int") "__bytes__" = pure none := by rw [typeLookup_type, builtinLookup_eq_fast]; kernel_rfl
theorem y_int_index : typeLookup (.type "int") "__index__" = pure (some (.builtin "int.__index__")) := by rw [typeLookup_type, builtinLookup_eq_fast]; kernel_rfl
theorem y_new_bytes {A : Around} {E : Value → Shared → Prop} {b : Array UInt8} {t : Tok} {Q : Value → Shared → Prop} (h : Q (.bytes b t) s) : codeAny (model S.prog D.w) A (.call (.builtin "bytes.__new__") ⟨[.type "bytes", .bytes b t], []⟩) (wants Q E) s := by
  refine codeAny_of_tree ?_
  show wpAny _ A.in1 (do checkBuiltinCall "bytes.__new__" ⟨[.type "bytes", .bytes b t], []⟩; again (.builtin "bytes.__new__" ⟨[.type "bytes", .bytes b t], []⟩)) _ _ s
  refine wpAny_bind (wpAny_of_eq (F.bm_newCall _) (wpAny_pure ⟨plainId_quiet F.bm_plain _, codeAny_builtin F.bm_entry ?_⟩))
  rw [Around.under_plainId F.bm_plain _]
  have hT : s.TypeIs (.bytes b t) "bytes" := typeIs_bytes _ _ _
  unfold Builtin.«bytes.__new__»
  refine wpAny_bind (wpAny_of_eq (a := true) rfl ?_)
  refine bm_if_false rfl ?_
  refine wpAny_bind (wpAny_of_eq F.bm_sub ?_)
  refine bm_if_false rfl ?_
  refine wpAny_bind (wpAny_of_eq (F.bm_bind _) ?_)
  refine wpAny_bind (wpAny_of_eq (a := ()) rfl ?_)
  refine wpAny_bind (wpAny_of_eq (a := ()) rfl ?_)
  refine bm_if_false rfl ?_
  refine wpAny_bind (wpAny_specialOf hT y_bytes_bytes ?_)
  refine wpAny_bind (wpAny_rule ?_)
  refine wpAny_bind (wpAny_typeOf hT ?_)
  refine bm_if_true (by decide) ?_
  first
    | exact wpAny_pure h
    | exact wpAny_bind (wpAny_pure (wpAny_pure h))
theorem b_bytesy {b : List UInt8} (h : P (.byt b) l σ) : ∀ xs, VRs [.byt b] xs → Ev S D k env l σ (call (.type "bytes") xs) P := by
  intro xs hx
  obtain ⟨x, rfl, ⟨t, rfl⟩⟩ := VRs1 hx
  intro A h₀ s hr hst
  refine callType_codes (Q₁ := fun obj s₁ => s₁.TypeIs obj "bytes" ∧ (obj = .bytes b.toArray t ∧ s₁ = s)) F.bm_called (F.bm_typeCall _) F.entry_object_init
    (y_new_bytes ⟨typeIs_bytes _ _ _, rfl, rfl⟩) fun obj s₁ h₁ => ?_
  obtain ⟨ht, rfl, rfl⟩ := h₁
  exact ⟨ht, F.args_object_init_2 _ _, object_init_meets F.bm_called.init.lookup F.bm_called.made (by decide) S.prog D.w A.in1 _ _ ⟨ht, rfl, ⟨_, l, σ, vy, hst, h⟩⟩⟩
theorem y_new_int {A : Around} {E : Value → Shared → Prop} {n : Int} {t : Tok} {Q : Value → Shared → Prop} (h0 : 0 ≤ n) (h1 : n ≤ 1000000) (h : ∀ t', Q (.bytes (Array.replicate n.toNat 0) t') { s with toks := s.toks + 1 }) : codeAny (model S.prog D.w) A (.call (.builtin "bytes.__new__") ⟨[.type "bytes", .int n t], []⟩) (wants Q E) s := by
  refine codeAny_of_tree ?_
  show wpAny _ A.in1 (do checkBuiltinCall "bytes.__new__" ⟨[.type "bytes", .int n t], []⟩; again (.builtin "bytes.__new__" ⟨[.type "bytes", .int n t], []⟩)) _ _ s
  refine wpAny_bind (wpAny_of_eq (F.bm_newCall _) (wpAny_pure ⟨plainId_quiet F.bm_plain _, codeAny_builtin F.bm_entry ?_⟩))
  rw [Around.under_plainId F.bm_plain _]
  have hT : s.TypeIs (.int n t) "int" := typeIs_int _ _ _
  unfold Builtin.«bytes.__new__»
  refine wpAny_bind (wpAny_of_eq (a := true) rfl ?_)
  refine bm_if_false rfl ?_
  refine wpAny_bind (wpAny_of_eq F.bm_sub ?_)
  refine bm_if_false rfl ?_
  refine wpAny_bind (wpAny_of_eq (F.bm_bind _) ?_)
  refine wpAny_bind (wpAny_of_eq (a := ()) rfl ?_)
  refine wpAny_bind (wpAny_of_eq (a := ()) rfl ?_)
  refine bm_if_false rfl ?_
  refine wpAny_bind (wpAny_specialOf hT y_int_bytes ?_)
  refine wpAny_bind (wpAny_of_eq (a := false) rfl ?_)
  refine bm_if_false rfl ?_
  refine wpAny_bind (wpAny_specialOf hT y_int_index ?_)
  refine bm_if_false rfl ?_
  refine wpAny_bind (wpAny_attempt (wpAny_of_eq (rfl : asIndex (.int n t) = pure n) ?_))
  dsimp only
  have hf : Builtin.Bytes.fitsIndex n = true := by simp only [Builtin.Bytes.fitsIndex, Bool.and_eq_true, decide_eq_true_eq]; omega
  have hl : Builtin.Bytes.tooLong n.toNat = false := by
    unfold Builtin.Bytes.tooLong
    simp only [decide_eq_false_iff_not, sizeLine_eq]
    omega
  refine bm_if_false (by rw [hf]; rfl) ?_
  rw [if_neg (by omega), if_neg (by omega)]
  refine bm_if_false hl ?_
  refine wpAny_bind (wpAny_rule (wpAny_bind (wpAny_mkBytes ?_ (by rw [Array.size_replicate, sizeLine_eq]; omega))))
  show wpAny _ _ (if (Value.type "bytes" == Value.type "bytes") = true then _ else _) _ _ _
  refine bm_if_true (by decide) ?_
  first
    | exact wpAny_pure (h _)
    | exact wpAny_bind (wpAny_pure (wpAny_pure (h _)))
theorem b_bytesn {n : Int} (h0 : 0 ≤ n) (h1 : n ≤ 1000000) (h : P (.byt (List.replicate n.toNat 0)) l σ) : ∀ xs, VRs [.int n] xs → Ev S D k env l σ (call (.type "bytes") xs) P := by
  intro xs hx
  obtain ⟨x, rfl, ⟨t, rfl⟩⟩ := VRs1 hx
  intro A h₀ s hr hst
  refine callType_codes (Q₁ := fun obj s₁ => s₁.TypeIs obj "bytes" ∧ ((∃ t', obj = .bytes (Array.replicate n.toNat 0) t') ∧ s₁ = { s with toks := s.toks + 1 })) F.bm_called (F.bm_typeCall _) F.entry_object_init
    (y_new_int h0 h1 fun t' => ⟨typeIs_bytes _ _ _, ⟨t', rfl⟩, rfl⟩) fun obj s₁ h₁ => ?_
  obtain ⟨ht, ⟨t', rfl⟩, rfl⟩ := h₁
  exact ⟨ht, F.args_object_init_2 _ _, object_init_meets F.bm_called.init.lookup F.bm_called.made (by decide) S.prog D.w A.in1 _ _ ⟨ht, rfl, ⟨.byt (List.replicate n.toNat 0), l, σ, ⟨t', by rw [List.toArray_replicate]⟩, hst.tok _, h⟩⟩⟩
end
end
end Mine
namespace Mine
open PySem PySem.W PySem.Calls PyProof.Rows
noncomputable section
section
variable {S : Sx} {D : Dx} {k : Nat} {env : Env} {l : List (Option V)} {σ : Store} {P : V → List (Option V) → Store → Prop} {PB : Bool → List (Option V) → Store → Prop} {PF : FV → List (Option V) → Store → Prop}
  {PU : List (Option V) → Store → Prop} {pos : Pos} {h₀ : Heap} {s : Shared} {L : Addr} {m : Str → Option Value} {e₁ e₂ e₃ : Expr}
theorem e_update {o : Expr} {apos : Pos} {arg : Expr} {pl : Sem Bool}
    (h : Ev S D k env l σ (eval o env) fun v l₁ σ₁ => ∃ a ks₀ vs₀, v = .ref a ∧ (a, O.map ks₀ vs₀) ∈ σ₁ ∧ Evs S D k env l₁ σ₁ (spliced (backTo pos (starEach [arg] env))) fun as l₂ σ₂ => ∃ b ks vs ks' vs' σ₃, as = [.ref b] ∧ (b, O.map ks' vs') ∈ σ₂ ∧
      At a (.map ks vs) (.map (ks ++ ks') (vs ++ vs')) σ₂ σ₃ ∧ a ≠ b ∧ (ks ++ ks').Nodup ∧ ks.length + ks'.length ≤ 1000 ∧ P .none l₂ σ₃)
    (he : eval (.Call (.Attribute o "update" apos) [arg] [] pos) env = (do
      let ov ← eval o env
      standAt apos.atName
      let (f, first) ← holding [ov] (getMethod ov "update" pl)
      callWith pos f first (backTo pos (starEach [arg] env)) []) := by rfl)
    (ha : starEach [arg] env = (false, eval arg env) :: starEach [] env := by rfl) :
    Ev S D k env l σ (eval (.Call (.Attribute o "update" apos) [arg] [] pos) env) P := by
  intro A h₀ s hr hst
  refine MethodCall_ (wpAny_mono (h A h₀ s hr hst) ?_ fun _ _ e => e) he
  rintro x s₁ ⟨v₁, l₁, σ₁, r₁, st₁, a, ks₀, vs₀, rfl, hm, q⟩
  cases (show x = .ref a from r₁)
  obtain ⟨m, F, lr⟩ := id st₁
  obtain ⟨kvs₁, hd₁, _, _⟩ := F.map hm
  refine getMethod_builtin hd₁.typeIs PySem.F.plainAttrs_dict PySem.F.slot_dict_update PySem.F.type_dict_update (fun b e => by
    cases e
    obtain ⟨o, ho, hd⟩ := Heap.dictOf_iff.mp hd₁
    obtain ⟨es, ep, ⟨_, hd, _⟩, _⟩ := hd
    exact ⟨o, ho, hd⟩) ?_
  refine callWith_method1 (wpAny_mono (q A h₀ s₁ hr st₁) ?_ fun _ _ e => e) ha
  rintro ys s₂ ⟨as, l₂, σ₂, r₂, st₂, b, ks, vs, ks', vs', σ₃, rfl, hb, hat, hab, nd, hz, p⟩
  obtain ⟨y, rfl, ry⟩ := VRs1 r₂
  cases (show y = .ref b from ry)
  obtain ⟨m₂, F₂, lr₂⟩ := id st₂
  obtain ⟨kvs, hd, e1, e2⟩ := F₂.map hat.mem
  obtain ⟨more, hm2, e3, e4⟩ := F₂.map hb
  have hlo := F₂.hi b ks' vs' hb
  refine call_meetsIn PySem.F.slot_dict_update hd.typeIs PySem.F.entry_dict_update (PySem.F.args_dict_update_2 _ _) (meets_dict_update (strKind S.prog D.w) a b hab ?_)
    ⟨kvs, more, hd, hm2, ?_, fun h' hmm _ hs => ⟨.none, l₂, σ₃, rfl, ⟨m₂, ?_, lr₂⟩, p⟩⟩
  · have : b ≠ sysModules := fun e => by rw [e] at hlo; revert hlo; decide
    simpa using this
  · have q1 : kvs.length = ks.length := by rw [← e1, List.length_map]
    have q2 : more.length = ks'.length := by rw [← e3, List.length_map]
    rw [sizeLine_eq]; omega
  · rw [merged_append_of_fresh _ _ (by rw [List.map_append, e1, e3]; exact nd)] at hmm
    obtain ⟨o', ho', hd'⟩ := Heap.dictOf_iff.mp hmm
    exact F₂.upd _ hat ⟨_, hd', by rw [List.map_append, e1, e3], by rw [List.map_append]; exact e2.app e4⟩ ho' (fun b x hb e => (hs.2 b hb).trans e) fun _ _ _ => ⟨_, _, rfl⟩
def PairL (σ : Store) (us : List V) (ps : List (Int × Bool)) : Prop := us.length = ps.length ∧ ∀ i p, nth ps i = some p → ∃ t, nth us i = some (.ref t) ∧ (t, O.tup [.int p.1, .bool p.2]) ∈ σ
theorem nth_of_lt {α : Type} {l : List α} {i : Nat} (h : i < l.length) : nth l i = some l[i] := by rw [nth_get]; simp [h]
theorem c_nel {a b : Addr} {us ws : List V} {ps qs : List (Int × Bool)} {x y : Value} (ha : (a, O.list us) ∈ σ) (hb : (b, O.list ws) ∈ σ) (hp : PairL σ us ps) (hq : PairL σ ws qs) (h : P (.bool (!decide (ps = qs))) l σ)
    (hx : VR (.ref a) x) (hy : VR (.ref b) y) : Ev S D k env l σ (compareOp .NotEq x y) P := by
  cases hx; cases hy
  intro A h₀ s hr hst
  obtain ⟨m, F, lr⟩ := id hst
  obtain ⟨xs, hl, hv⟩ := F.list ha
  obtain ⟨zs, hl', hv'⟩ := F.list hb
  have n1 := hv.len
  have n2 := hv'.len
  have hu : A.units + 50 * k ≤ 9000 := hr.1.2.2.1
  have cl : cLine = 9900 := rfl
  by_cases hlen : ps.length = qs.length
  · have key : SeqAt.RcNeAt A s (.ref a) (.ref b) (!(List.range xs.toArray.size).all fun j => decide (ps[j]? = qs[j]?)) := by
      refine SeqAt.RcNeAt.lists hl hl' (by rw [List.size_toArray, List.size_toArray, n1, n2, hp.1, hq.1, hlen]) (by omega) fun j h1 h2 => ?_
      have j1 : j < ps.length := by rw [← hp.1, ← n1]; simpa using h1
      have j2 : j < qs.length := by rw [← hlen]; exact j1
      obtain ⟨t, ht, tm⟩ := hp.2 j ps[j] (nth_of_lt j1)
      obtain ⟨u, hu', um⟩ := hq.2 j qs[j] (nth_of_lt j2)
      obtain ⟨x, hx, rx⟩ := hv.nth ht
      obtain ⟨z, hz, rz⟩ := hv'.nth hu'
      cases (show x = .ref t from rx); cases (show z = .ref u from rz)
      rw [nth_get] at hx hz
      have ex : xs.toArray[j] = .ref t := by
        have := List.getElem?_eq_some_iff.mp hx
        obtain ⟨_, e⟩ := this
        simpa using e
      have ez : zs.toArray[j] = .ref u := by
        have := List.getElem?_eq_some_iff.mp hz
        obtain ⟨_, e⟩ := this
        simpa using e
      rw [ex, ez]
      obtain ⟨tx, hot, rt⟩ := F.tup tm
      obtain ⟨ux, hou, ru⟩ := F.tup um
      obtain ⟨a1, a2, rfl, ⟨t1, rfl⟩, r2⟩ := VRs2 rt
      obtain ⟨b1, b2, rfl, ⟨t2, rfl⟩, r4⟩ := VRs2 ru
      cases (show a2 = .bool _ from r2); cases (show b2 = .bool _ from r4)
      by_cases hne : t = u
      · subst hne
        rw [hot] at hou
        injection hou with hou
        injection hou with _ _ hdat _
        injection hdat with hdat _
        simp only [Array.mk.injEq, List.cons.injEq, Value.int.injEq, Value.bool.injEq, and_true] at hdat
        have : ps[j]? = qs[j]? := by
          rw [List.getElem?_eq_getElem j1, List.getElem?_eq_getElem j2]
          have : ps[j] = qs[j] := Prod.ext hdat.1.1 hdat.2
          rw [this]
        rw [decide_eq_true this]
        exact SeqAt.EqAt.same _
      · have := SeqAt.RcAt.tuples (A := A.in1) (e := fun i => match i with | 0 => ps[j].1 == qs[j].1 | _ => ps[j].2 == qs[j].2) ⟨_, hot, rfl, 0, rfl⟩ ⟨_, hou, rfl, 0, rfl⟩ (show A.units + 1 < cLine by omega) fun i h1 h2 => by
          have i2 : i < 2 := h1
          match i, i2 with
          | 0, _ => exact SeqAt.EqAt.int_int _ _ _ _
          | 1, _ => exact SeqAt.EqAt.bool_bool _ _
        refine SeqAt.EqAt.of_refs hne ?_
        have ee : ((List.range (min #[Value.int ps[j].fst t1, Value.bool ps[j].snd].size #[Value.int qs[j].fst t2, Value.bool qs[j].snd].size)).all (fun i => match i with | 0 => ps[j].1 == qs[j].1 | _ => ps[j].2 == qs[j].2) && #[Value.int ps[j].fst t1, Value.bool ps[j].snd].size == #[Value.int qs[j].fst t2, Value.bool qs[j].snd].size) = decide (ps[j]? = qs[j]?) := by
          rw [List.getElem?_eq_getElem j1, List.getElem?_eq_getElem j2, Bool.eq_iff_iff]
          simp only [List.size_toArray, List.length_cons, List.length_nil, Nat.zero_add, Nat.reduceAdd, Nat.min_self, decide_eq_true_eq, Option.some.injEq, Prod.ext_iff]
          simp [List.range, List.range.loop]
        exact ee ▸ this
    refine PySem.EqBoolInt.of_rcne key ⟨_, l, σ, vb, hst, ?_⟩
    have ee : ((List.range xs.toArray.size).all fun j => decide (ps[j]? = qs[j]?)) = decide (ps = qs) := by
      rw [Bool.eq_iff_iff]
      simp only [List.all_eq_true, List.mem_range, decide_eq_true_eq, List.size_toArray, n1, hp.1]
      constructor
      · intro q
        refine List.ext_getElem? fun i => ?_
        by_cases c : i < ps.length
        · exact q i c
        · rw [List.getElem?_eq_none (by omega), List.getElem?_eq_none (by omega)]
      · rintro rfl i _; rfl
    rw [ee]
    exact h
  · refine PySem.EqBoolInt.of_rcne (SeqAt.RcNeAt.lists_lengths hl hl' (by rw [List.size_toArray, List.size_toArray, n1, n2, hp.1, hq.1]; simpa using hlen) (by omega)) ⟨_, l, σ, vb, hst, ?_⟩
    have : decide (ps = qs) = false := decide_eq_false fun e => hlen (by rw [e])
    rw [this] at h
    exact h
def isCell (sc : Scope) (cells : List (Str × Addr)) (x : Str) (c : Addr) : Bool := decide (sc.kind = .function) && decide (sc.names.lookup x = some .cell) && decide (cells.lookup x = some c) && !(x == ("__debug__" : Str))
theorem e_cell {x : Str} {pos} {c : Addr} {v : V} (hm : (c, O.cell v) ∈ σ) (h : P v l σ) (hs : env.scope.kind = .function := by rfl) (hk : env.kindOf x = some .cell := by kernel_rfl) (hc : env.cells.lookup x = some c := by rfl) (hd : (x == ("__debug__" : Str)) = false := by kernel_rfl) :
    Ev S D k env l σ (eval (.Name x pos) env) P := by
  intro A h₀ s hr hst
  obtain ⟨m, F, lr⟩ := id hst
  obtain ⟨o, ho, y, hd', ry⟩ := F.mem hm
  exact wpAny_Name (wpAny_loadName_cell hs hk hc ⟨o, ho, hd'⟩ ⟨v, l, σ, ry, hst, h⟩) hd
def defOkC (sc : Scope) (ps : List Str) (n : Nat) (x : Str) : Bool :=
  decide (sc.kind = .function) && !sc.isCoroutine && !sc.isGenerator && decide (sc.names.filter (fun y => y.2 == .cell) = [(x, .cell)]) && decide (ps.length = n) && decide (ps.Nodup) && ps.all (fun p => decide (sc.names.lookup p = some .local) || decide (p = x)) &&
  decide ((sc.names.take n).map (·.1) = ps) && decide (sc.names.lookup x = some .cell)
theorem cellsFrom_one {x : Str} : ∀ (names : List (Str × NameKind)) (n : Nat) (acc : List (Str × Addr)), (names.filter fun y => y.2 == .cell) = [(x, .cell)] → cellsFrom n names acc = (x, n) :: acc
  | [], _, _, h => by cases h
  | (y, kd) :: r, n, acc, h => by
    unfold cellsFrom
    by_cases c : (kd == .cell) = true
    · rw [if_pos c]
      rw [List.filter_cons_of_pos (by exact c)] at h
      injection h with h1 h2
      injection h1 with h1 _
      subst h1
      have : ∀ (r : List (Str × NameKind)) (n : Nat) (acc : List (Str × Addr)), (r.filter fun y => y.2 == .cell) = [] → cellsFrom n r acc = acc := by
        intro r
        induction r with
        | nil => intros; rfl
        | cons z r ih =>
          intro n acc h
          obtain ⟨z, kz⟩ := z
          unfold cellsFrom
          by_cases cz : (kz == .cell) = true
          · rw [List.filter_cons_of_pos (by exact cz)] at h; cases h
          · rw [if_neg cz]
            rw [List.filter_cons_of_neg (by exact cz)] at h
            exact ih n acc h
      exact this r _ _ h2
    · rw [if_neg c]
      rw [List.filter_cons_of_neg (by exact c)] at h
      exact cellsFrom_one r n acc h
theorem bindL_out {kd : Str → Option NameKind} {p : Str} : ∀ {ps : List Str} {xs : List Value} {m : Str → Option Value}, p ∉ ps → bindL kd (ps.zip xs) m p = m p
  | [], _, _, _ => rfl
  | _ :: _, [], _, _ => rfl
  | a :: r, x :: xs, m, h => by
    rw [List.zip_cons_cons]
    unfold bindL
    rw [bindL_out fun q => h (.tail _ q)]
    split
    · show (if p = a then _ else _) = _
      rw [if_neg fun e => h (by rw [e]; exact .head _)]
    · rfl
theorem bindC_out {kd : Str → Option NameKind} {p : Str} : ∀ {ps : List Str} {xs : List Value} {m : Str → Option Value}, p ∉ ps → bindC kd (ps.zip xs) m p = m p
  | [], _, _, _ => rfl
  | _ :: _, [], _, _ => rfl
  | a :: r, x :: xs, m, h => by
    rw [List.zip_cons_cons]
    unfold bindC
    rw [bindC_out fun q => h (.tail _ q)]
    split
    · rfl
    · show (if p = a then _ else _) = _
      rw [if_neg fun e => h (by rw [e]; exact .head _)]
theorem bindL_at {kd : Str → Option NameKind} {p : Str} (hk : kd p = some .local) {v : Value} : ∀ {ps : List Str} {xs : List Value} {m : Str → Option Value} {i : Nat}, ps.Nodup → nth ps i = some p → nth xs i = some v → bindL kd (ps.zip xs) m p = some v
  | [], _, _, _, _, h, _ => by cases h
  | _ :: _, [], _, _, _, _, h => by cases h
  | a :: r, x :: xs, m, 0, hn, h1, h2 => by
    cases h1; cases h2
    rw [List.zip_cons_cons]
    unfold bindL
    rw [bindL_out (List.nodup_cons.mp hn).1, if_pos hk]
    simp
  | a :: r, x :: xs, m, i + 1, hn, h1, h2 => by
    rw [List.zip_cons_cons]
    unfold bindL
    exact bindL_at hk (i := i) (List.nodup_cons.mp hn).2 h1 h2
theorem bindC_at {kd : Str → Option NameKind} {p : Str} (hk : kd p ≠ some .local) {v : Value} : ∀ {ps : List Str} {xs : List Value} {m : Str → Option Value} {i : Nat}, ps.Nodup → nth ps i = some p → nth xs i = some v → bindC kd (ps.zip xs) m p = some v
  | [], _, _, _, _, h, _ => by cases h
  | _ :: _, [], _, _, _, _, h => by cases h
  | a :: r, x :: xs, m, 0, hn, h1, h2 => by
    cases h1; cases h2
    rw [List.zip_cons_cons]
    unfold bindC
    rw [bindC_out (List.nodup_cons.mp hn).1, if_neg hk]
    simp
  | a :: r, x :: xs, m, i + 1, hn, h1, h2 => by
    rw [List.zip_cons_cons]
    unfold bindC
    exact bindC_at hk (i := i) (List.nodup_cons.mp hn).2 h1 h2
theorem cl_defC {f : Addr} {args : List V} {PR : V → Store → Prop} {name qual : Str} {params : Arguments} {body : List Stmt} {scope : Scope} {dV kV doc pm cdv ct oc : Value} {an od : Option Addr} {osl : Array (Option Value)} (ps : List Str) (x : Str) (ci : Nat) (cv : V)
    (ho : (S.K D.w.params).lookup f = some ⟨oc, od, .func (fnX name qual params body scope [] dV kV doc pm an cdv ct), osl⟩) (hcd : codeIn (S.K D.w.params) cdv qual = true)
    (hb : ∀ (s : Shared) (xs : List Value), (S.K D.w.params).In s.heap → VRs args xs → BindsTo s (fnX name qual params body scope [] dV kV doc pm an cdv ct) ⟨xs, []⟩ (ps.zip xs)) (hok : defOkC scope ps args.length x = true)
    (hci : nth ps ci = some x) (hcv : nth args ci = some cv)
    (h : ∀ L, Ex S D k (envX qual scope L f cdv [(x, L + 1)]) (setN (args.map some) ci none ++ List.replicate (scope.names.length - args.length) none) (σ ++ [(L + 1, .cell cv)]) (execs body (envX qual scope L f cdv [(x, L + 1)])) fun fl _ σ' => PR (retV fl) σ') :
    Cl S D (k + 1) (.ref f) args σ PR := by
  intro A h₀ L m s xs hr F hx
  unfold defOkC at hok
  simp only [Bool.and_eq_true, decide_eq_true_eq, Bool.not_eq_true', List.all_eq_true, Bool.or_eq_true] at hok
  obtain ⟨⟨⟨⟨⟨⟨⟨⟨k1, k2⟩, k3⟩, k4⟩, k5⟩, k6⟩, k7⟩, k8⟩, k9⟩ := hok
  obtain ⟨news, N, r⟩ := F.nw
  have X := F.k
  have hcells : ∀ n, cellsFrom n scope.names [] = [(x, n)] := fun n => cellsFrom_one _ _ _ k4
  refine codeAny_call_function (fd := fnX name qual params body scope [] dV kV doc pm an cdv ct) (body := body) (room_depth hr) (X _ _ ho) rfl k2 k3 rfl (codeRec_of X hcd) (hb s xs X hx _ _ _ _ ?_)
  refine wpAny_newFunctionEnv_cells k1 (fun y hy => ?_) fun env' he s' ic => ?_
  · have hp := (List.of_mem_zip (a := y.1) (b := y.2) hy).1
    rcases k7 _ hp with h1 | h1
    · exact .inl h1
    · refine .inr ⟨h1 ▸ k9, ?_⟩
      show (List.lookup y.1 (cellsFrom _ scope.names [])).isSome = true
      rw [hcells, h1]
      simp
  subst he
  rw [show cellsFrom (s.heap.objs.size + 1) scope.names [] = [(x, s.heap.objs.size + 1)] from hcells _] at ic ⊢
  obtain ⟨h₁, tk, rfl, hk₁⟩ := ic.done
  have hm : ∀ {vs : List V} {i : Nat} {v : V}, nth (vs.map some) i = some (some v) → nth vs i = some v := by
    intro vs
    induction vs with
    | nil => intro i v h; cases h
    | cons a r ih =>
      intro i v h
      cases i with
      | zero => cases h; rfl
      | succ i => exact ih (i := i) h
  obtain ⟨cy, hcy, rcy⟩ := hx.nth hcv
  have hc1 := ic.cell x (s.heap.objs.size + 1) (by show List.lookup x [(x, s.heap.objs.size + 1)] = _; simp)
  obtain ⟨oc1, hoc1, hoc2⟩ := hc1
  rw [bindC_at (p := x) (by show List.lookup x scope.names ≠ _; rw [k9]; decide) k6 hci hcy] at hoc2
  have lt1 : s.heap.objs.size < s.heap.objs.size + 1 := Nat.lt_succ_self _
  have fr1 : s.heap.get? (s.heap.objs.size + 1) = none := by
    cases q : s.heap.get? (s.heap.objs.size + 1) with
    | none => rfl
    | some o => exact absurd (Heap.lt_size q) (Nat.not_lt.mpr (Nat.le_succ _))
  refine ⟨F.base.top.nolimit.keeps fun b o e => hk₁ b o (F.fr.keep b o e), codeAny_func ?_⟩
  have FG : Fr (hideAll s.heap (news.map (·.1))) s.heap.objs.size h₁ (bindL (fun y => scope.names.lookup y) (ps.zip xs) fun _ => none) := ⟨ic.toInCall.ns, fun b o e => hk₁ b o (of_hideAll _ e), Nat.le_of_eq (hideAll_size _ _)⟩
  have NG : News (hideAll s.heap (news.map (·.1))) s.heap.objs.size h₁ (news ++ [(s.heap.objs.size + 1, oc1)]) := fun p hp => by
    rcases List.mem_append.mp hp with hp | hp
    · exact ⟨hk₁ _ _ (N p hp).1, Nat.ne_of_lt (Heap.lt_size (N p hp).1), hideAll_none _ (List.mem_map_of_mem hp)⟩
    · cases List.mem_singleton.mp hp
      refine ⟨hoc1, Nat.ne_of_gt lt1, ?_⟩
      cases q : (hideAll s.heap (news.map (·.1))).get? (s.heap.objs.size + 1) with
      | none => rfl
      | some o => have := of_hideAll _ q; rw [fr1] at this; cases this
  have st : ∀ b o, h₀.get? b = some o → (hideAll s.heap (news.map (·.1))).get? b = some o := fun b o e => hideAll_get _ (F.fr.keep b o e) fun q => by
    obtain ⟨p, hp, rfl⟩ := List.mem_map.mp q
    rw [(N p hp).2.2] at e; cases e
  have BG : Base S D (hideAll s.heap (news.map (·.1))) := ⟨F.base.inn.keeps st, F.base.top.keeps st, F.base.scr.at fun o e => st _ o e, F.base.seer.keeps st⟩
  have nd : ((σ ++ [(s.heap.objs.size + 1, O.cell cv)]).map (·.1)).Nodup := by
    rw [List.map_append, List.nodup_append]
    refine ⟨F.nd, by simp, fun b hb c hc e => ?_⟩
    subst e
    cases List.mem_singleton.mp hc
    rw [← NR.keys r] at hb
    obtain ⟨p, hp, e⟩ := List.mem_map.mp hb
    have := (N p hp).1
    rw [e, fr1] at this; cases this
  have hi : ∀ a ks vs, (a, O.map ks vs) ∈ σ ++ [(s.heap.objs.size + 1, O.cell cv)] → 3 < a := fun a ks vs hm => by
    rcases List.mem_append.mp hm with hm | hm
    · exact F.hi a ks vs hm
    · cases List.mem_singleton.mp hm
  have FF : FS S D (hideAll s.heap (news.map (·.1))) s.heap.objs.size (bindL (fun y => scope.names.lookup y) (ps.zip xs) fun _ => none) (σ ++ [(s.heap.objs.size + 1, .cell cv)]) { s with heap := h₁, toks := tk } :=
    ⟨FG, ⟨_, NG, NR.snoc (o := .cell cv) ⟨cy, hoc2, rcy⟩ r⟩, nd, hi, BG, F.fix⟩
  have LG : LR scope.names (setN (args.map some) ci none ++ List.replicate (scope.names.length - args.length) none) (bindL (fun y => scope.names.lookup y) (ps.zip xs) fun _ => none) := by
    intro i y v hi hv
    rw [nth_app, setN_len, List.length_map] at hv
    by_cases c : i < args.length
    · rw [if_pos c, nth_set] at hv
      by_cases ec : ci = i
      · rw [if_pos ⟨ec, by rw [ec, List.length_map]; exact c⟩] at hv
        cases hv
      · rw [if_neg fun q => ec q.1] at hv
        obtain ⟨z, hz, hr'⟩ := hx.nth (hm hv)
        have hp := posOf_take hi c
        rw [k8] at hp
        have yin : y ∈ ps := by
          rw [nth_get] at hp
          exact List.mem_of_getElem? hp
        have yl : scope.names.lookup y = some .local := by
          rcases k7 _ yin with h1 | h1
          · exact h1
          · exfalso
            subst h1
            have nodup_nth : ∀ {ps : List Str} {i j : Nat}, ps.Nodup → nth ps i = some y → nth ps j = some y → i = j := by
              intro ps
              induction ps with
              | nil => intro i j _ h; cases h
              | cons a r ih =>
                intro i j hn h1 h2
                rw [List.nodup_cons] at hn
                cases i with
                | zero =>
                  cases j with
                  | zero => rfl
                  | succ j =>
                    cases h1
                    exact absurd (List.mem_of_getElem? ((nth_get (l := r) (i := j)).symm.trans h2)) hn.1
                | succ i =>
                  cases j with
                  | zero =>
                    cases h2
                    exact absurd (List.mem_of_getElem? ((nth_get (l := r) (i := i)).symm.trans h1)) hn.1
                  | succ j => exact congrArg (· + 1) (ih (i := i) (j := j) hn.2 h1 h2)
            exact ec (nodup_nth k6 hci hp)
        exact ⟨z, bindL_at (kd := fun y => scope.names.lookup y) yl k6 hp hz, hr'⟩
    · rw [if_neg c] at hv
      cases nth_rep hv
  have eenv : newEnv scope s.heap.objs.size mainGlobals [(x, s.heap.objs.size + 1)] (qual ++ ".<locals>.") (some f) cdv none builtinsNs = envX qual scope s.heap.objs.size f cdv [(x, s.heap.objs.size + 1)] := rfl
  rw [eenv]
  refine wpAny_mono (h s.heap.objs.size _ _ _ (room_deeper hr ⟨k3, k2, rfl, rfl⟩) ⟨_, FF, LG⟩) ?_ fun _ _ e => e.elim
  rintro fl s' ⟨fv, l', σ', fr, ⟨m', F', _⟩, p⟩
  have back := F.back N rfl F'
  cases fv with
  | next => cases (show fl = .next from fr); exact ⟨.none, .none, σ', rfl, rfl, back, p⟩
  | brk => cases (show fl = .brk from fr); exact ⟨.none, .none, σ', rfl, rfl, back, p⟩
  | ret v =>
    obtain ⟨x, rfl, hv⟩ := (show ∃ x, fl = .ret x ∧ VR v x from fr)
    exact ⟨v, x, σ', rfl, hv, back, p⟩
end
end
end Mine
namespace Mine
open PySem PySem.W PySem.Calls PyProof.Rows
noncomputable section
structure MethF (K : Frag) (C : Addr) (name : Str) (f : Addr) : Prop where ok : methOk K C name f = true
structure AttrF (K : Frag) (C : Addr) (name : Str) : Prop where ok : attrOk K C name = true
structure SetF (K : Frag) (C : Addr) (name : Str) : Prop where ok : setOk K C name = true
structure PropF (K : Frag) (C p : Addr) (name : Str) (f : Addr) : Prop where ok : propOk K C p name f = true
structure NewF (K : Frag) (C f : Addr) : Prop where ok : newOk K C f = true
structure GlobF (K : Frag) (x : Str) (f : Value) : Prop where
  ok : nsIn K mainGlobals x = some (some f)
  keep : keepIn K f = true
structure BootF (K : Frag) (x : Str) (f : Value) : Prop where
  no : nsIn K mainGlobals x = some none
  ok : bootBuiltins x = some f
  ne : x ≠ "__name__"
  b : isB f = true
structure Kno (ks : List Str) (x : Str) : Prop where ok : kpos ks x = none
structure Kyes (ks : List Str) (x : Str) (i : Nat) : Prop where ok : kpos ks x = some i
section
variable {S : Sx} {D : Dx} {k : Nat} {env : Env} {l : List (Option V)} {σ : Store} {P : V → List (Option V) → Store → Prop} {PB : Bool → List (Option V) → Store → Prop} {PF : FV → List (Option V) → Store → Prop}
  {PU : List (Option V) → Store → Prop} {pos : Pos} {h₀ : Heap} {s : Shared} {L : Addr} {m : Str → Option Value} {e₁ e₂ e₃ : Expr}
theorem e_methF {o : Expr} {apos : Pos} {args : List Expr} {pl : Sem Bool} (name : Str)
    (h : Ev S D k env l σ (eval o env) fun v l₁ σ₁ => ∃ x C dx ks vs f, v = .ref x ∧ (x, O.inst C dx) ∈ σ₁ ∧ (dx, O.dict ks vs) ∈ σ₁ ∧ MethF (S.K D.w.params) C name f ∧ Kno ks name ∧
      Evs S D k env l₁ σ₁ (spliced (backTo pos (starEach args env))) fun as l₂ σ₂ => Cl S D k (.ref f) (.ref x :: as) σ₂ fun v σ₃ => P v l₂ σ₃)
    (he : eval (.Call (.Attribute o name apos) args [] pos) env = (do
      let ov ← eval o env
      standAt apos.atName
      let (f, first) ← holding [ov] (getMethod ov name pl)
      callWith pos f first (backTo pos (starEach args env)) []) := by rfl)
    (hp : (backTo pos (starEach args env)).any (·.1) = false := by rfl) (ha : ∀ e r, args = e :: r → starEach args env = (false, eval e env) :: starEach r env := by (intro e r h; cases h; rfl)) :
    Ev S D k env l σ (eval (.Call (.Attribute o name apos) args [] pos) env) P :=
  e_meth (h.mono fun _ _ _ ⟨x, C, dx, ks, vs, f, h1, h2, h3, h4, h5, h6⟩ => ⟨x, C, dx, ks, vs, f, h1, h2, h3, h4.ok, h5.ok, h6⟩) he hp ha
theorem e_attrF {o : Expr} (name : Str)
    (h : Ev S D k env l σ (eval o env) fun v l₁ σ₁ => ∃ x C dx ks vs i u, v = .ref x ∧ (x, O.inst C dx) ∈ σ₁ ∧ (dx, O.dict ks vs) ∈ σ₁ ∧ AttrF (S.K D.w.params) C name ∧ Kyes ks name i ∧ nth vs i = some u ∧ P u l₁ σ₁)
    (he : eval (.Attribute o name pos) env = (do
      let ov ← eval o env
      standAt pos.atName
      let r ← holding [ov] (getAttr ov name true)
      letTemporaryGo o ov r
      pure r) := by with_unfolding_all rfl) : Ev S D k env l σ (eval (.Attribute o name pos) env) P :=
  e_attr (h.mono fun _ _ _ ⟨x, C, dx, ks, vs, i, u, h1, h2, h3, h4, h5, h6, h7⟩ => ⟨x, C, dx, ks, vs, i, u, h1, h2, h3, h4.ok, h5.ok, h6, h7⟩) he
theorem e_propF {o : Expr} (name : Str) (p f : Addr)
    (h : Ev S D (k + 1) env l σ (eval o env) fun v l₁ σ₁ => ∃ x C dx ks vs, v = .ref x ∧ (x, O.inst C dx) ∈ σ₁ ∧ (dx, O.dict ks vs) ∈ σ₁ ∧ PropF (S.K D.w.params) C p name f ∧ Cl S D k (.ref f) [.ref x] σ₁ fun v σ₂ => P v l₁ σ₂)
    (he : eval (.Attribute o name pos) env = (do
      let ov ← eval o env
      standAt pos.atName
      let r ← holding [ov] (getAttr ov name true)
      letTemporaryGo o ov r
      pure r) := by with_unfolding_all rfl) : Ev S D (k + 1) env l σ (eval (.Attribute o name pos) env) P :=
  e_prop p f (h.mono fun _ _ _ ⟨x, C, dx, ks, vs, h1, h2, h3, h4, h5⟩ => ⟨x, C, dx, ks, vs, h1, h2, h3, h4.ok, h5⟩) he
theorem atK {d : Addr} {ks : List Str} {vs vs' : List V} {name : Str} {i : Nat} {v : V} {σ σ' : Store} (hk : Kyes ks name i) (hv : setN vs i v = vs') (h : At d (.dict ks vs) (.dict ks vs') σ σ') : At d (.dict ks vs) (.dict (putK ks name) (putV ks vs name v)) σ σ' := by
  unfold putK putV
  rw [hk.ok]
  subst hv; exact h
theorem atA {d : Addr} {ks : List Str} {vs : List V} {name : Str} {v : V} {σ σ' : Store} (hk : Kno ks name) (h : At d (.dict ks vs) (.dict (ks ++ [name]) (vs ++ [v])) σ σ') : At d (.dict ks vs) (.dict (putK ks name) (putV ks vs name v)) σ σ' := by
  unfold putK putV
  rw [hk.ok]
  exact h
theorem atM {d : Addr} {ks : List Str} {vs vs' : List V} {name : Str} {i : Nat} {v : V} {σ σ' : Store} (hk : Kyes ks name i) (hv : setN vs i v = vs') (h : At d (.map ks vs) (.map ks vs') σ σ') : At d (.map ks vs) (.map (putK ks name) (putV ks vs name v)) σ σ' := by
  unfold putK putV
  rw [hk.ok]
  subst hv; exact h
theorem x_setattrF {o value : Expr} {p' : Pos} (name : Str)
    (h : Ev S D k env l σ (eval value env) fun v l₁ σ₁ => Ev S D k env l₁ σ₁ (eval o env) fun ov l₂ σ₂ => ∃ x C dx ks vs σ', ov = .ref x ∧ (x, O.inst C dx) ∈ σ₂ ∧ SetF (S.K D.w.params) C name ∧ ks.length ≤ 900 ∧
      At dx (O.dict ks vs) (O.dict (putK ks name) (putV ks vs name v)) σ₂ σ' ∧ PF .next l₂ σ')
    (hs : swapsWith value (some (.Attribute o name p')) pos.line env = pure false := by rfl) : Ex S D k env l σ (exec (.Assign [.Attribute o name p'] value pos) env) PF :=
  x_setattr (h.mono fun _ _ _ q => q.mono fun _ _ _ ⟨x, C, dx, ks, vs, σ', h1, h2, h3, h4, h5, h6⟩ => ⟨x, C, dx, ks, vs, σ', h1, h2, h3.ok, h4, h5, h6⟩) hs
theorem e_callKF {np : Pos} {args : List Expr} (x : Str) (f : Addr) (hn : GlobF (S.K D.w.params) x (.ref f)) (h : Evs S D k env l σ (spliced (backTo pos (starEach args env))) fun vs l₁ σ₁ => Cl S D k (.ref f) vs σ₁ fun v σ₂ => P v l₁ σ₂)
    (hx : isGlob env.scope x = true := by kernel_rfl) (hg : GlobOk env := by exact ⟨rfl, rfl, rfl⟩)
    (hp : (backTo pos (starEach args env)).any (·.1) = false := by rfl) (he : ∀ e r, args = e :: r → starEach args env = (false, eval e env) :: starEach r env := by (intro e r h; cases h; rfl)) :
    Ev S D k env l σ (eval (.Call (.Name x np) args [] pos) env) P := e_callK (.ref f) h hn.ok hn.keep hx hg hp he
theorem e_callBF {np : Pos} {e : Expr} {rest : List Expr} (x : Str) (f : Value) (hn : BootF (S.K D.w.params) x f) (h : Evs S D k env l σ (spliced (backTo pos (starEach (e :: rest) env))) fun vs l₁ σ₁ => ∀ xs, VRs vs xs → Ev S D k env l₁ σ₁ (call f xs) P)
    (hx : isGlob env.scope x = true := by kernel_rfl) (hg : GlobOk env := by exact ⟨rfl, rfl, rfl⟩)
    (hp : (backTo pos (starEach rest env)).any (·.1) = false := by rfl) (he : starEach (e :: rest) env = (false, eval e env) :: starEach rest env := by rfl) :
    Ev S D k env l σ (eval (.Call (.Name x np) (e :: rest) [] pos) env) P := e_callB f h hn.no hn.ok hn.ne hn.b hx hg hp he
theorem x_assignF {p' : Pos} {value : Expr} (x : Str) (i : Nat) (h : Ev S D k env l σ (eval value env) fun v l₁ σ₁ => PF .next (setN l₁ i (some v)) σ₁)
    (hs : isLoc env.scope x i = true := by kernel_rfl) (hw : swapsWith value (some (.Name x p')) pos.line env = pure false := by rfl) : Ex S D k env l σ (exec (.Assign [.Name x p'] value pos) env) PF := x_assign i h hs hw
theorem ex_l {α β : Type} {R : β → α → Prop} {t : Sem α} {PP : β → List (Option V) → Store → Prop} {l' : List (Option V)} (e : l = l') (h : J S D k env R l' σ t PP) : J S D k env R l σ t PP := e ▸ h
theorem cl_newF {C f : Addr} {args : List V} {PR : V → Store → Prop} (ok : NewF (S.K D.w.params) C f) (h : ∀ x dx, Cl S D k (.ref f) (.ref x :: args) (σ ++ [(dx, .dict [] []), (x, .inst C dx)]) fun v σ' => v = .none ∧ PR (.ref x) σ') :
    Cl S D (k + 1) (.ref C) args σ PR := cl_new ok.ok h
theorem g_name (x : Str) {p : Pos} (i : Nat) {v : V} (hv : nth l i = some (some v)) (hs : isLoc env.scope x i = true) (h : P v l σ) : Ev S D k env l σ (eval (.Name x p) env) P := e_name i hv h hs
theorem g_attr {o : Expr} {name : Str}
    (he : eval (.Attribute o name pos) env = (do
      let ov ← eval o env
      standAt pos.atName
      let r ← holding [ov] (getAttr ov name true)
      letTemporaryGo o ov r
      pure r))
    (h : Ev S D k env l σ (eval o env) fun v l₁ σ₁ => ∃ x C dx ks vs i u, v = .ref x ∧ (x, O.inst C dx) ∈ σ₁ ∧ (dx, O.dict ks vs) ∈ σ₁ ∧ AttrF (S.K D.w.params) C name ∧ Kyes ks name i ∧ nth vs i = some u ∧ P u l₁ σ₁) : Ev S D k env l σ (eval (.Attribute o name pos) env) P := e_attrF name h he
theorem g_prop {o : Expr} (name : Str) (p f : Addr)
    (he : eval (.Attribute o name pos) env = (do
      let ov ← eval o env
      standAt pos.atName
      let r ← holding [ov] (getAttr ov name true)
      letTemporaryGo o ov r
      pure r))
    (h : Ev S D (k + 1) env l σ (eval o env) fun v l₁ σ₁ => ∃ x C dx ks vs, v = .ref x ∧ (x, O.inst C dx) ∈ σ₁ ∧ (dx, O.dict ks vs) ∈ σ₁ ∧ PropF (S.K D.w.params) C p name f ∧ Cl S D k (.ref f) [.ref x] σ₁ fun v σ₂ => P v l₁ σ₂) : Ev S D (k + 1) env l σ (eval (.Attribute o name pos) env) P := e_propF name p f h he
theorem g_meth {o : Expr} {apos : Pos} {args : List Expr} {pl : Sem Bool} {name : Str}
    (he : eval (.Call (.Attribute o name apos) args [] pos) env = (do
      let ov ← eval o env
      standAt apos.atName
      let (f, first) ← holding [ov] (getMethod ov name pl)
      callWith pos f first (backTo pos (starEach args env)) []))
    (hp : (backTo pos (starEach args env)).any (·.1) = false) (ha : ∀ e r, args = e :: r → starEach args env = (false, eval e env) :: starEach r env)
    (h : Ev S D k env l σ (eval o env) fun v l₁ σ₁ => ∃ x C dx ks vs f, v = .ref x ∧ (x, O.inst C dx) ∈ σ₁ ∧ (dx, O.dict ks vs) ∈ σ₁ ∧ MethF (S.K D.w.params) C name f ∧ Kno ks name ∧
      Evs S D k env l₁ σ₁ (spliced (backTo pos (starEach args env))) fun as l₂ σ₂ => Cl S D k (.ref f) (.ref x :: as) σ₂ fun v σ₃ => P v l₂ σ₃) :
    Ev S D k env l σ (eval (.Call (.Attribute o name apos) args [] pos) env) P := e_methF name h he hp ha
theorem g_callK {np : Pos} {args : List Expr} (x : Str) (f : Addr) (hn : GlobF (S.K D.w.params) x (.ref f)) (hx : isGlob env.scope x = true) (hg : GlobOk env) (hp : (backTo pos (starEach args env)).any (·.1) = false)
    (he : ∀ e r, args = e :: r → starEach args env = (false, eval e env) :: starEach r env) (h : Evs S D k env l σ (spliced (backTo pos (starEach args env))) fun vs l₁ σ₁ => Cl S D k (.ref f) vs σ₁ fun v σ₂ => P v l₁ σ₂) :
    Ev S D k env l σ (eval (.Call (.Name x np) args [] pos) env) P := e_callKF x f hn h hx hg hp he
theorem g_callB {np : Pos} {e : Expr} {rest : List Expr} (x : Str) (f : Value) (hn : BootF (S.K D.w.params) x f) (hx : isGlob env.scope x = true) (hg : GlobOk env) (hp : (backTo pos (starEach rest env)).any (·.1) = false)
    (he : starEach (e :: rest) env = (false, eval e env) :: starEach rest env) (h : Evs S D k env l σ (spliced (backTo pos (starEach (e :: rest) env))) fun vs l₁ σ₁ => ∀ xs, VRs vs xs → Ev S D k env l₁ σ₁ (call f xs) P) :
    Ev S D k env l σ (eval (.Call (.Name x np) (e :: rest) [] pos) env) P := e_callBF x f hn h hx hg hp he
theorem g_cmp {op : CmpOp} (ho : isCmp op = true) (hm : behindInMarks op e₂ = false) (h : Ev S D k env l σ (eval e₁ env) fun v₁ l₁ σ₁ => Ev S D k env l₁ σ₁ (eval e₂ env) fun v₂ l₂ σ₂ => ∃ a b, v₁ = .int a ∧ v₂ = .int b ∧ P (.bool (cmpZ op a b)) l₂ σ₂) :
    Ev S D k env l σ (eval (.Compare e₁ [op] [e₂] pos) env) P := e_cmp h ho hm
theorem g_tcmp {op : CmpOp} {whole} (ho : isCmp op = true) (hm : behindInMarks op e₂ = false) (h : Ev S D k env l σ (eval e₁ env) fun v₁ l₁ σ₁ => Ev S D k env l₁ σ₁ (eval e₂ env) fun v₂ l₂ σ₂ => ∃ a b, v₁ = .int a ∧ v₂ = .int b ∧ PB (cmpZ op a b) l₂ σ₂) :
    Tv S D k env l σ (isTrue (.Compare e₁ [op] [e₂] pos) env whole) PB := t_cmp h ho hm
theorem g_cons {PA : List V → List (Option V) → Store → Prop} {e : Expr} {rest : List Expr} (he : starEach (e :: rest) env = (false, eval e env) :: starEach rest env)
    (h : Ev S D k env l σ (eval e env) fun v l₁ σ₁ => Evs S D k env l₁ σ₁ (spliced (backTo pos (starEach rest env))) fun vs l₂ σ₂ => PA (v :: vs) l₂ σ₂) : Evs S D k env l σ (spliced (backTo pos (starEach (e :: rest) env))) PA := a_cons h he
theorem g_plain {e : Expr} {whole : Sem Value} (he : isTrue e env whole = (do let v ← whole; standAt e.pos; holding [v] (truthy v))) (h : Ev S D k env l σ whole fun v l₁ σ₁ => ∃ b, v = .bool b ∧ PB b l₁ σ₁) : Tv S D k env l σ (isTrue e env whole) PB := t_plain h he
theorem g_setattr {o value : Expr} {p' : Pos} {name : Str} (hs : swapsWith value (some (.Attribute o name p')) pos.line env = pure false)
    (h : Ev S D k env l σ (eval value env) fun v l₁ σ₁ => Ev S D k env l₁ σ₁ (eval o env) fun ov l₂ σ₂ => ∃ x C dx ks vs σ', ov = .ref x ∧ (x, O.inst C dx) ∈ σ₂ ∧ SetF (S.K D.w.params) C name ∧ ks.length ≤ 900 ∧
      At dx (O.dict ks vs) (O.dict (putK ks name) (putV ks vs name v)) σ₂ σ' ∧ PF .next l₂ σ') : Ex S D k env l σ (exec (.Assign [.Attribute o name p'] value pos) env) PF := x_setattrF name h hs
theorem g_expr {e : Expr} (hi : interactive env = false) (hs : swapsWith e none pos.line env = pure false) (h : Ev S D k env l σ (eval e env) fun _ l₁ σ₁ => PF .next l₁ σ₁) : Ex S D k env l σ (exec (.Expr e pos) env) PF := x_expr h hi hs
theorem g_fdiv (ht : S.prog.given.tree = none) (h : Ev S D k env l σ (eval e₁ env) fun v₁ l₁ σ₁ => Ev S D k env l₁ σ₁ (eval e₂ env) fun v₂ l₂ σ₂ => ∃ a b, v₁ = .int a ∧ v₂ = .int b ∧ b ≠ 0 ∧ P (.int (a.fdiv b)) l₂ σ₂) :
    Ev S D k env l σ (eval (.BinOp e₁ .FloorDiv e₂ pos) env) P := e_fdiv h ht
theorem i_mapF {value slice : Expr} {a : Addr} {ks : List Str} {vs : List V} {x : Str} {i : Nat} {u : V} (hm : (a, O.map ks vs) ∈ σ) (hk : Kyes ks x i) (hu : nth vs i = some u) (h : P u l σ)
    (hs : ∀ a x t, subscripted slice false (.ref a) (.str x t) = operate [.ref a, .str x t] (getItem (.ref a) (.str x t)) := by (intro a i t; with_unfolding_all rfl)) : ∀ z y, VR (.ref a) z → VR (.str x) y → Ev S D k env l σ (subscriptTail value slice z y) P := i_map hm hk.ok hu h hs
end
end
end Mine
set_option maxHeartbeats 2000000
namespace Mine
open PySem PySem.W PySem.Calls PyProof.Rows
noncomputable section
theorem At.new {a : Addr} {o o' : O} {σ σ' : Store} (h : At a o o' σ σ') : (a, o') ∈ σ' := by
  induction h with
  | head => exact .head _
  | tail _ ih => exact .tail _ ih
  | app _ ih => exact List.mem_append_right _ ih
section
variable {S : Sx} {D : Dx} {k : Nat} {env : Env} {l : List (Option V)} {σ : Store} {P : V → List (Option V) → Store → Prop} {pos : Pos}
theorem ev_any {t : Sem Value} (C : V → Prop) (h : Ev S D k env l σ t fun v l' σ' => C v ∧ l' = l ∧ Pre σ σ') (q : ∀ v, C v → P v l σ) : Ev S D k env l σ t P := by
  refine J.out (J.mono h ?_)
  rintro v l' σ' ⟨a, rfl, c⟩
  exact ⟨σ, c, q v a⟩
theorem g_cell (x : Str) (hk : env.kindOf x = some .cell) (hs : env.scope.kind = .function) (hd : (x == ("__debug__" : Str)) = false) {c : Addr} {v : V} (hc : env.cells.lookup x = some c) (hm : (c, O.cell v) ∈ σ) (h : P v l σ) :
    Ev S D k env l σ (eval (.Name x pos) env) P := e_cell hm h hs hk hc hd
end
end
end Mine
set_option maxHeartbeats 2000000
namespace Mine
open PySem PySem.W PySem.Calls PyProof.Rows
noncomputable section
section
variable {S : Sx} {D : Dx} {k : Nat}
theorem cl_top {A : Around} {s : Shared} {xs : List Value} {f : Addr} {args : List V} {PR : V → Store → Prop} {name qual : Str} {params : Arguments} {body : List Stmt} {scope : Scope} {dV kV doc pm cdv ct oc : Value} {an od : Option Addr} {osl : Array (Option Value)} (ps : List Str)
    (hr : Room0 (k + 1) A) (B : Base S D s.heap) (hfix : s.gens = D.gens ∧ s.drawn = D.drawn ∧ s.os = D.os) (hx : VRs args xs)
    (ho : (S.K D.w.params).lookup f = some ⟨oc, od, .func (fnX name qual params body scope [] dV kV doc pm an cdv ct), osl⟩) (hcd : codeIn (S.K D.w.params) cdv qual = true)
    (hb : ∀ (s : Shared) (xs : List Value), (S.K D.w.params).In s.heap → VRs args xs → BindsTo s (fnX name qual params body scope [] dV kV doc pm an cdv ct) ⟨xs, []⟩ (ps.zip xs)) (hok : defOk scope ps args.length = true)
    (h : ∀ L, Ex S D k (envX qual scope L f cdv []) (args.map some ++ List.replicate (scope.names.length - args.length) none) [] (execs body (envX qual scope L f cdv [])) fun fl _ σ' => PR (retV fl) σ') :
    codeAny (model S.prog D.w) A (.call (.ref f) ⟨xs, []⟩) (fun r s' => ∃ v v' σ', r = .ok (.ret v') ∧ VR v v' ∧ PR v σ' ∧ (∀ b o, s.heap.get? b = some o → s'.heap.get? b = some o) ∧ s'.gens = D.gens ∧ s'.drawn = D.drawn ∧ s'.os = D.os) s := by
  unfold defOk at hok
  simp only [Bool.and_eq_true, decide_eq_true_eq, Bool.not_eq_true', List.all_eq_true] at hok
  obtain ⟨⟨⟨⟨⟨⟨⟨k1, k2⟩, k3⟩, k4⟩, k5⟩, k6⟩, k7⟩, k8⟩ := hok
  have X := B.inn
  refine codeAny_call_def (fd := fnX name qual params body scope [] dV kV doc pm an cdv ct) (body := body) (binds := ps.zip xs) (room_depth hr) (X _ _ ho) rfl B.top.nolimit (codeRec_of X hcd) rfl (hb s xs X hx) k4
    (fun y hy => k7 _ (List.of_mem_zip (a := y.1) (b := y.2) hy).1) (fun h₁ hns hk₁ => ?_) k2 k3 k1
  have FG : Fr s.heap s.heap.objs.size h₁ (fun y => (ps.zip xs).reverse.lookup y) := ⟨hns, fun b o e => hk₁ b o e, Nat.le_refl _⟩
  have hl : xs.length = args.length := hx.len
  have LG : LR scope.names (args.map some ++ List.replicate (scope.names.length - args.length) none) (fun y => (ps.zip xs).reverse.lookup y) := by
    intro i x v hi hv
    rw [nth_app] at hv
    by_cases c : i < (args.map some).length
    · rw [if_pos c] at hv
      have c' : i < args.length := by simpa using c
      have hm : ∀ {vs : List V} {i : Nat}, nth (vs.map some) i = some (some v) → nth vs i = some v := by
        intro vs
        induction vs with
        | nil => intro i h; cases h
        | cons a r ih =>
          intro i h
          cases i with
          | zero => cases h; rfl
          | succ i => exact ih (i := i) h
      obtain ⟨y, hy, hr'⟩ := hx.nth (hm hv)
      have hp := posOf_take hi c'
      rw [k8] at hp
      exact ⟨y, zip_look k6 hp hy, hr'⟩
    · rw [if_neg c] at hv
      cases nth_rep hv
  have SG : St S D s.heap (envX qual scope s.heap.objs.size f cdv []) (args.map some ++ List.replicate (scope.names.length - args.length) none) [] { s with heap := h₁, toks := s.toks + (ps.zip xs).length } :=
    ⟨_, ⟨FG, ⟨[], fun p hp => (nomatch hp), trivial⟩, List.nodup_nil, fun _ _ _ hm => (nomatch hm), B, hfix⟩, LG⟩
  refine wpAny_mono (h s.heap.objs.size _ _ _ (room_deeper hr ⟨k3, k2, rfl, rfl⟩) SG) ?_ fun _ _ e => e.elim
  rintro fl s' ⟨fv, l', σ', fr, ⟨m', F', _⟩, p⟩
  have keep := F'.fr.keep
  have fx := F'.fix
  cases fv with
  | next => cases (show fl = .next from fr); exact ⟨.none, .none, σ', rfl, rfl, p, keep, fx⟩
  | brk => cases (show fl = .brk from fr); exact ⟨.none, .none, σ', rfl, rfl, p, keep, fx⟩
  | ret v =>
    obtain ⟨x, rfl, hv⟩ := (show ∃ x, fl = .ret x ∧ VR v x from fr)
    exact ⟨v, x, σ', rfl, hv, p, keep, fx⟩
end
end
end Mine
set_option maxHeartbeats 4000000
namespace Mine
open PySem PySem.W PySem.Calls PyProof.Rows
noncomputable abbrev Sy : Sx := { prog := PySem.Challenge.rw_nu0132_02.row.prog, K := hd.heap_1, p := hd.view_1, loose := looseW hd.view_1 [Str.ofString "Sender"] }
abbrev KS : List Str := [Str.ofString "iss", Str.ofString "ring", Str.ofString "mss", Str.ofString "una", Str.ofString "next", Str.ofString "greatest", Str.ofString "peer", Str.ofString "queue", Str.ofString "syn_pending", Str.ofString "fin_asked", Str.ofString "fin_sent"]
abbrev KP : List Str := [Str.ofString "ring", Str.ofString "size", Str.ofString "most", Str.ofString "told_seq", Str.ofString "told_ack"]
abbrev KQ : List Str := [Str.ofString "room", Str.ofString "held"]
theorem ms_take_window {w : Params} : MethF (Sy.K w) 371 (Str.ofString "take_window") 213 := ⟨by kernel_rfl⟩
theorem ns_take_window : Kno KS (Str.ofString "take_window") := ⟨by kernel_rfl⟩
theorem ms_put {w : Params} : MethF (Sy.K w) 371 (Str.ofString "put") 220 := ⟨by kernel_rfl⟩
theorem ns_put : Kno KS (Str.ofString "put") := ⟨by kernel_rfl⟩
theorem ms_ask_fin {w : Params} : MethF (Sy.K w) 371 (Str.ofString "ask_fin") 227 := ⟨by kernel_rfl⟩
theorem ns_ask_fin : Kno KS (Str.ofString "ask_fin") := ⟨by kernel_rfl⟩
theorem ms_flight {w : Params} : MethF (Sy.K w) 371 (Str.ofString "flight") 234 := ⟨by kernel_rfl⟩
theorem ns_flight : Kno KS (Str.ofString "flight") := ⟨by kernel_rfl⟩
theorem ms_usable {w : Params} : MethF (Sy.K w) 371 (Str.ofString "usable") 241 := ⟨by kernel_rfl⟩
theorem ns_usable : Kno KS (Str.ofString "usable") := ⟨by kernel_rfl⟩
theorem ms_data_sent {w : Params} : MethF (Sy.K w) 371 (Str.ofString "data_sent") 248 := ⟨by kernel_rfl⟩
theorem ns_data_sent : Kno KS (Str.ofString "data_sent") := ⟨by kernel_rfl⟩
theorem ms_unsent {w : Params} : MethF (Sy.K w) 371 (Str.ofString "unsent") 255 := ⟨by kernel_rfl⟩
theorem ns_unsent : Kno KS (Str.ofString "unsent") := ⟨by kernel_rfl⟩
theorem ms_is_fin_due {w : Params} : MethF (Sy.K w) 371 (Str.ofString "is_fin_due") 262 := ⟨by kernel_rfl⟩
theorem ns_is_fin_due : Kno KS (Str.ofString "is_fin_due") := ⟨by kernel_rfl⟩
theorem ms_is_fin_acked {w : Params} : MethF (Sy.K w) 371 (Str.ofString "is_fin_acked") 269 := ⟨by kernel_rfl⟩
theorem ns_is_fin_acked : Kno KS (Str.ofString "is_fin_acked") := ⟨by kernel_rfl⟩
theorem ms_go_on {w : Params} : MethF (Sy.K w) 371 (Str.ofString "go_on") 283 := ⟨by kernel_rfl⟩
theorem ns_go_on : Kno KS (Str.ofString "go_on") := ⟨by kernel_rfl⟩
theorem ms_start {w : Params} : MethF (Sy.K w) 371 (Str.ofString "start") 290 := ⟨by kernel_rfl⟩
theorem ns_start : Kno KS (Str.ofString "start") := ⟨by kernel_rfl⟩
theorem ms_may_go {w : Params} : MethF (Sy.K w) 371 (Str.ofString "may_go") 297 := ⟨by kernel_rfl⟩
theorem ns_may_go : Kno KS (Str.ofString "may_go") := ⟨by kernel_rfl⟩
theorem ms_pieces {w : Params} : MethF (Sy.K w) 371 (Str.ofString "pieces") 305 := ⟨by kernel_rfl⟩
theorem ns_pieces : Kno KS (Str.ofString "pieces") := ⟨by kernel_rfl⟩
theorem ms_piece_of {w : Params} : MethF (Sy.K w) 371 (Str.ofString "piece_of") 312 := ⟨by kernel_rfl⟩
theorem ns_piece_of : Kno KS (Str.ofString "piece_of") := ⟨by kernel_rfl⟩
theorem ms_ever_sent {w : Params} : MethF (Sy.K w) 371 (Str.ofString "ever_sent") 319 := ⟨by kernel_rfl⟩
theorem ns_ever_sent : Kno KS (Str.ofString "ever_sent") := ⟨by kernel_rfl⟩
theorem ms_is_idle_with_more {w : Params} : MethF (Sy.K w) 371 (Str.ofString "is_idle_with_more") 347 := ⟨by kernel_rfl⟩
theorem ns_is_idle_with_more : Kno KS (Str.ofString "is_idle_with_more") := ⟨by kernel_rfl⟩
theorem ms_needs_probe {w : Params} : MethF (Sy.K w) 371 (Str.ofString "needs_probe") 354 := ⟨by kernel_rfl⟩
theorem ns_needs_probe : Kno KS (Str.ofString "needs_probe") := ⟨by kernel_rfl⟩
theorem ms_acked {w : Params} : MethF (Sy.K w) 371 (Str.ofString "acked") 368 := ⟨by kernel_rfl⟩
theorem ns_acked : Kno KS (Str.ofString "acked") := ⟨by kernel_rfl⟩
theorem as_iss {w : Params} : AttrF (Sy.K w) 371 (Str.ofString "iss") := ⟨by kernel_rfl⟩
theorem ws_iss {w : Params} : SetF (Sy.K w) 371 (Str.ofString "iss") := ⟨by kernel_rfl⟩
theorem ks_iss : Kyes KS (Str.ofString "iss") 0 := ⟨by kernel_rfl⟩
theorem as_ring {w : Params} : AttrF (Sy.K w) 371 (Str.ofString "ring") := ⟨by kernel_rfl⟩
theorem ws_ring {w : Params} : SetF (Sy.K w) 371 (Str.ofString "ring") := ⟨by kernel_rfl⟩
theorem ks_ring : Kyes KS (Str.ofString "ring") 1 := ⟨by kernel_rfl⟩
theorem as_mss {w : Params} : AttrF (Sy.K w) 371 (Str.ofString "mss") := ⟨by kernel_rfl⟩
theorem ws_mss {w : Params} : SetF (Sy.K w) 371 (Str.ofString "mss") := ⟨by kernel_rfl⟩
theorem ks_mss : Kyes KS (Str.ofString "mss") 2 := ⟨by kernel_rfl⟩
theorem as_una {w : Params} : AttrF (Sy.K w) 371 (Str.ofString "una") := ⟨by kernel_rfl⟩
theorem ws_una {w : Params} : SetF (Sy.K w) 371 (Str.ofString "una") := ⟨by kernel_rfl⟩
theorem ks_una : Kyes KS (Str.ofString "una") 3 := ⟨by kernel_rfl⟩
theorem as_next {w : Params} : AttrF (Sy.K w) 371 (Str.ofString "next") := ⟨by kernel_rfl⟩
theorem ws_next {w : Params} : SetF (Sy.K w) 371 (Str.ofString "next") := ⟨by kernel_rfl⟩
theorem ks_next : Kyes KS (Str.ofString "next") 4 := ⟨by kernel_rfl⟩
theorem as_greatest {w : Params} : AttrF (Sy.K w) 371 (Str.ofString "greatest") := ⟨by kernel_rfl⟩
theorem ws_greatest {w : Params} : SetF (Sy.K w) 371 (Str.ofString "greatest") := ⟨by kernel_rfl⟩
theorem ks_greatest : Kyes KS (Str.ofString "greatest") 5 := ⟨by kernel_rfl⟩
theorem as_peer {w : Params} : AttrF (Sy.K w) 371 (Str.ofString "peer") := ⟨by kernel_rfl⟩
theorem ws_peer {w : Params} : SetF (Sy.K w) 371 (Str.ofString "peer") := ⟨by kernel_rfl⟩
theorem ks_peer : Kyes KS (Str.ofString "peer") 6 := ⟨by kernel_rfl⟩
theorem as_queue {w : Params} : AttrF (Sy.K w) 371 (Str.ofString "queue") := ⟨by kernel_rfl⟩
theorem ws_queue {w : Params} : SetF (Sy.K w) 371 (Str.ofString "queue") := ⟨by kernel_rfl⟩
theorem ks_queue : Kyes KS (Str.ofString "queue") 7 := ⟨by kernel_rfl⟩
theorem as_syn_pending {w : Params} : AttrF (Sy.K w) 371 (Str.ofString "syn_pending") := ⟨by kernel_rfl⟩
theorem ws_syn_pending {w : Params} : SetF (Sy.K w) 371 (Str.ofString "syn_pending") := ⟨by kernel_rfl⟩
theorem ks_syn_pending : Kyes KS (Str.ofString "syn_pending") 8 := ⟨by kernel_rfl⟩
theorem as_fin_asked {w : Params} : AttrF (Sy.K w) 371 (Str.ofString "fin_asked") := ⟨by kernel_rfl⟩
theorem ws_fin_asked {w : Params} : SetF (Sy.K w) 371 (Str.ofString "fin_asked") := ⟨by kernel_rfl⟩
theorem ks_fin_asked : Kyes KS (Str.ofString "fin_asked") 9 := ⟨by kernel_rfl⟩
theorem as_fin_sent {w : Params} : AttrF (Sy.K w) 371 (Str.ofString "fin_sent") := ⟨by kernel_rfl⟩
theorem ws_fin_sent {w : Params} : SetF (Sy.K w) 371 (Str.ofString "fin_sent") := ⟨by kernel_rfl⟩
theorem ks_fin_sent : Kyes KS (Str.ofString "fin_sent") 10 := ⟨by kernel_rfl⟩
theorem mp_is_newer {w : Params} : MethF (Sy.K w) 180 (Str.ofString "is_newer") 170 := ⟨by kernel_rfl⟩
theorem np_is_newer : Kno KP (Str.ofString "is_newer") := ⟨by kernel_rfl⟩
theorem mp_take {w : Params} : MethF (Sy.K w) 180 (Str.ofString "take") 177 := ⟨by kernel_rfl⟩
theorem np_take : Kno KP (Str.ofString "take") := ⟨by kernel_rfl⟩
theorem ap_ring {w : Params} : AttrF (Sy.K w) 180 (Str.ofString "ring") := ⟨by kernel_rfl⟩
theorem wp_ring {w : Params} : SetF (Sy.K w) 180 (Str.ofString "ring") := ⟨by kernel_rfl⟩
theorem kp_ring : Kyes KP (Str.ofString "ring") 0 := ⟨by kernel_rfl⟩
theorem ap_size {w : Params} : AttrF (Sy.K w) 180 (Str.ofString "size") := ⟨by kernel_rfl⟩
theorem wp_size {w : Params} : SetF (Sy.K w) 180 (Str.ofString "size") := ⟨by kernel_rfl⟩
theorem kp_size : Kyes KP (Str.ofString "size") 1 := ⟨by kernel_rfl⟩
theorem ap_most {w : Params} : AttrF (Sy.K w) 180 (Str.ofString "most") := ⟨by kernel_rfl⟩
theorem wp_most {w : Params} : SetF (Sy.K w) 180 (Str.ofString "most") := ⟨by kernel_rfl⟩
theorem kp_most : Kyes KP (Str.ofString "most") 2 := ⟨by kernel_rfl⟩
theorem ap_told_seq {w : Params} : AttrF (Sy.K w) 180 (Str.ofString "told_seq") := ⟨by kernel_rfl⟩
theorem wp_told_seq {w : Params} : SetF (Sy.K w) 180 (Str.ofString "told_seq") := ⟨by kernel_rfl⟩
theorem kp_told_seq : Kyes KP (Str.ofString "told_seq") 3 := ⟨by kernel_rfl⟩
theorem wp_told_ack {w : Params} : SetF (Sy.K w) 180 (Str.ofString "told_ack") := ⟨by kernel_rfl⟩
theorem kp_told_ack : Kyes KP (Str.ofString "told_ack") 4 := ⟨by kernel_rfl⟩
theorem mq_size {w : Params} : MethF (Sy.K w) 117 (Str.ofString "size") 86 := ⟨by kernel_rfl⟩
theorem nq_size : Kno KQ (Str.ofString "size") := ⟨by kernel_rfl⟩
theorem mq_room_left {w : Params} : MethF (Sy.K w) 117 (Str.ofString "room_left") 93 := ⟨by kernel_rfl⟩
theorem nq_room_left : Kno KQ (Str.ofString "room_left") := ⟨by kernel_rfl⟩
theorem mq_put {w : Params} : MethF (Sy.K w) 117 (Str.ofString "put") 100 := ⟨by kernel_rfl⟩
theorem nq_put : Kno KQ (Str.ofString "put") := ⟨by kernel_rfl⟩
theorem mq_part {w : Params} : MethF (Sy.K w) 117 (Str.ofString "part") 107 := ⟨by kernel_rfl⟩
theorem nq_part : Kno KQ (Str.ofString "part") := ⟨by kernel_rfl⟩
theorem mq_drop {w : Params} : MethF (Sy.K w) 117 (Str.ofString "drop") 114 := ⟨by kernel_rfl⟩
theorem nq_drop : Kno KQ (Str.ofString "drop") := ⟨by kernel_rfl⟩
theorem aq_room {w : Params} : AttrF (Sy.K w) 117 (Str.ofString "room") := ⟨by kernel_rfl⟩
theorem wq_room {w : Params} : SetF (Sy.K w) 117 (Str.ofString "room") := ⟨by kernel_rfl⟩
theorem kq_room : Kyes KQ (Str.ofString "room") 0 := ⟨by kernel_rfl⟩
theorem aq_held {w : Params} : AttrF (Sy.K w) 117 (Str.ofString "held") := ⟨by kernel_rfl⟩
theorem wq_held {w : Params} : SetF (Sy.K w) 117 (Str.ofString "held") := ⟨by kernel_rfl⟩
theorem kq_held : Kyes KQ (Str.ofString "held") 1 := ⟨by kernel_rfl⟩
abbrev KB : List Str := [Str.ofString "iss", Str.ofString "mss", Str.ofString "una", Str.ofString "next", Str.ofString "end", Str.ofString "asked", Str.ofString "window", Str.ofString "widest", Str.ofString "heard", Str.ofString "small", Str.ofString "mixed"]
theorem kb_iss : Kyes KB (Str.ofString "iss") 0 := ⟨by kernel_rfl⟩
theorem kb_mss : Kyes KB (Str.ofString "mss") 1 := ⟨by kernel_rfl⟩
theorem kb_una : Kyes KB (Str.ofString "una") 2 := ⟨by kernel_rfl⟩
theorem kb_next : Kyes KB (Str.ofString "next") 3 := ⟨by kernel_rfl⟩
theorem kb_end : Kyes KB (Str.ofString "end") 4 := ⟨by kernel_rfl⟩
theorem kb_asked : Kyes KB (Str.ofString "asked") 5 := ⟨by kernel_rfl⟩
theorem kb_window : Kyes KB (Str.ofString "window") 6 := ⟨by kernel_rfl⟩
theorem kb_widest : Kyes KB (Str.ofString "widest") 7 := ⟨by kernel_rfl⟩
theorem kb_heard : Kyes KB (Str.ofString "heard") 8 := ⟨by kernel_rfl⟩
theorem kb_small : Kyes KB (Str.ofString "small") 9 := ⟨by kernel_rfl⟩
theorem kb_mixed : Kyes KB (Str.ofString "mixed") 10 := ⟨by kernel_rfl⟩
theorem p_window {w : Params} : PropF (Sy.K w) 371 206 (Str.ofString "window") 205 := ⟨by kernel_rfl⟩
theorem new_Sender {w : Params} : NewF (Sy.K w) 371 198 := ⟨by kernel_rfl⟩
theorem new_PeerWindow {w : Params} : NewF (Sy.K w) 180 163 := ⟨by kernel_rfl⟩
theorem new_SendQueue {w : Params} : NewF (Sy.K w) 117 79 := ⟨by kernel_rfl⟩
theorem g_plus {w : Params} : GlobF (Sy.K w) (Str.ofString "plus") (.ref 128) := ⟨by kernel_rfl, by kernel_rfl⟩
theorem g_distance {w : Params} : GlobF (Sy.K w) (Str.ofString "distance") (.ref 135) := ⟨by kernel_rfl, by kernel_rfl⟩
theorem g_is_before {w : Params} : GlobF (Sy.K w) (Str.ofString "is_before") (.ref 142) := ⟨by kernel_rfl, by kernel_rfl⟩
theorem g_latest {w : Params} : GlobF (Sy.K w) (Str.ofString "latest") (.ref 149) := ⟨by kernel_rfl, by kernel_rfl⟩
theorem g_law_take {w : Params} : GlobF (Sy.K w) (Str.ofString "_law_take") (.ref 389) := ⟨by kernel_rfl, by kernel_rfl⟩
theorem g_law_one {w : Params} : GlobF (Sy.K w) (Str.ofString "_law_one") (.ref 396) := ⟨by kernel_rfl, by kernel_rfl⟩
theorem g_law_pool {w : Params} : GlobF (Sy.K w) (Str.ofString "_law_pool") (.ref 382) := ⟨by kernel_rfl, by kernel_rfl⟩
theorem g_law_due {w : Params} : GlobF (Sy.K w) (Str.ofString "_law_due") (.ref 403) := ⟨by kernel_rfl, by kernel_rfl⟩
theorem g_law_take_pieces {w : Params} : GlobF (Sy.K w) (Str.ofString "_law_take_pieces") (.ref 408) := ⟨by kernel_rfl, by kernel_rfl⟩
theorem g_law_is_held {w : Params} : GlobF (Sy.K w) (Str.ofString "_law_is_held") (.ref 415) := ⟨by kernel_rfl, by kernel_rfl⟩
theorem g_law_turn_right {w : Params} : GlobF (Sy.K w) (Str.ofString "_law_turn_right") (.ref 420) := ⟨by kernel_rfl, by kernel_rfl⟩
theorem g_PeerWindow {w : Params} : GlobF (Sy.K w) (Str.ofString "PeerWindow") (.ref 180) := ⟨by kernel_rfl, by kernel_rfl⟩
theorem g_SendQueue {w : Params} : GlobF (Sy.K w) (Str.ofString "SendQueue") (.ref 117) := ⟨by kernel_rfl, by kernel_rfl⟩
theorem g_Sender {w : Params} : GlobF (Sy.K w) (Str.ofString "Sender") (.ref 371) := ⟨by kernel_rfl, by kernel_rfl⟩
theorem z_min {w : Params} : BootF (Sy.K w) (Str.ofString "min") (.builtin "min") := ⟨by kernel_rfl, by kernel_rfl, by decide, rfl⟩
theorem z_max {w : Params} : BootF (Sy.K w) (Str.ofString "max") (.builtin "max") := ⟨by kernel_rfl, by kernel_rfl, by decide, rfl⟩
theorem z_len {w : Params} : BootF (Sy.K w) (Str.ofString "len") (.builtin "len") := ⟨by kernel_rfl, by kernel_rfl, by decide, rfl⟩
theorem z_int {w : Params} : BootF (Sy.K w) (Str.ofString "int") (.type "int") := ⟨by kernel_rfl, by kernel_rfl, by decide, rfl⟩
theorem z_bool {w : Params} : BootF (Sy.K w) (Str.ofString "bool") (.type "bool") := ⟨by kernel_rfl, by kernel_rfl, by decide, rfl⟩
theorem z_bytes {w : Params} : BootF (Sy.K w) (Str.ofString "bytes") (.type "bytes") := ⟨by kernel_rfl, by kernel_rfl, by decide, rfl⟩
theorem z_range {w : Params} : BootF (Sy.K w) (Str.ofString "range") (.type "range") := ⟨by kernel_rfl, by kernel_rfl, by decide, rfl⟩

local macro_rules | `(tactic| walk_at "NM") => `(tactic| (rotate_left; (· rfl); (· kernel_rfl)))
local macro_rules | `(tactic| walk_at "CK") => `(tactic| ((· kernel_rfl); (· exact ⟨rfl, rfl, rfl⟩); (· rfl); (· (intro e r h; cases h <;> rfl))))
local macro_rules | `(tactic| walk_at "CB") => `(tactic| ((· kernel_rfl); (· exact ⟨rfl, rfl, rfl⟩); (· rfl); (· rfl)))
local macro_rules | `(tactic| walk_at "MEMO") => `(tactic| first | assumption | exact .head _ | exact .tail _ (.head _) | exact List.mem_append_left _ (by assumption))
local macro_rules | `(tactic| walk_at "MEMR") => `(tactic| first | (with_reducible apply List.mem_cons_self) | ((with_reducible apply List.mem_cons_of_mem); walk_at "MEMR") | (with_reducible assumption) | ((with_reducible apply List.mem_append_left); walk_at "MEMR") | ((with_reducible apply List.mem_append_right); walk_at "MEMR"))
local macro_rules | `(tactic| walk_at "MEM") => `(tactic| first | (with_reducible assumption) | walk_at "MEMR" | walk_at "MEMO")
local macro_rules | `(tactic| walk_at "SIDE") => `(tactic| first | assumption | exact rfl | decide | exact Nat.le_of_ble_eq_true rfl | omega | exact IntMulOk.of_left (by decide) | exact IntMulOk.of_right (by decide))
local macro_rules | `(tactic| walk_at "METH") => `(tactic| with_reducible first | apply ms_take_window | apply ms_put | apply ms_ask_fin | apply ms_flight | apply ms_usable | apply ms_data_sent | apply ms_unsent | apply ms_is_fin_due | apply ms_is_fin_acked | apply ms_go_on | apply ms_start | apply ms_may_go | apply ms_pieces | apply ms_piece_of | apply ms_ever_sent | apply ms_is_idle_with_more | apply ms_needs_probe | apply ms_acked | apply mp_is_newer | apply mp_take | apply mq_size | apply mq_room_left | apply mq_put | apply mq_part | apply mq_drop)
local macro_rules | `(tactic| walk_at "KN") => `(tactic| with_reducible first | apply ns_take_window | apply ns_put | apply ns_ask_fin | apply ns_flight | apply ns_usable | apply ns_data_sent | apply ns_unsent | apply ns_is_fin_due | apply ns_is_fin_acked | apply ns_go_on | apply ns_start | apply ns_may_go | apply ns_pieces | apply ns_piece_of | apply ns_ever_sent | apply ns_is_idle_with_more | apply ns_needs_probe | apply ns_acked | apply np_is_newer | apply np_take | apply nq_size | apply nq_room_left | apply nq_put | apply nq_part | apply nq_drop)
local macro_rules | `(tactic| walk_at "ATTR") => `(tactic| with_reducible first | apply as_iss | apply as_ring | apply as_mss | apply as_una | apply as_next | apply as_greatest | apply as_peer | apply as_queue | apply as_syn_pending | apply as_fin_asked | apply as_fin_sent | apply ap_ring | apply ap_size | apply ap_most | apply ap_told_seq | apply ap_told_ack | apply aq_room | apply aq_held)
local macro_rules | `(tactic| walk_at "SETA") => `(tactic| with_reducible first | apply ws_iss | apply ws_ring | apply ws_mss | apply ws_una | apply ws_next | apply ws_greatest | apply ws_peer | apply ws_queue | apply ws_syn_pending | apply ws_fin_asked | apply ws_fin_sent | apply wp_ring | apply wp_size | apply wp_most | apply wp_told_seq | apply wp_told_ack | apply wq_room | apply wq_held)
local macro_rules | `(tactic| walk_at "KA") => `(tactic| with_reducible first | apply ks_iss | apply ks_ring | apply ks_mss | apply ks_una | apply ks_next | apply ks_greatest | apply ks_peer | apply ks_queue | apply ks_syn_pending | apply ks_fin_asked | apply ks_fin_sent | apply kp_ring | apply kp_size | apply kp_most | apply kp_told_seq | apply kp_told_ack | apply kq_room | apply kq_held | apply kb_iss | apply kb_mss | apply kb_una | apply kb_next | apply kb_end | apply kb_asked | apply kb_window | apply kb_widest | apply kb_heard | apply kb_small | apply kb_mixed)
local macro_rules | `(tactic| walk_at "CALLB") => `(tactic| ((with_reducible first | refine g_callB (Str.ofString "min") (.builtin "min") z_min ?_ ?_ ?_ ?_ ?_ | refine g_callB (Str.ofString "max") (.builtin "max") z_max ?_ ?_ ?_ ?_ ?_ | refine g_callB (Str.ofString "len") (.builtin "len") z_len ?_ ?_ ?_ ?_ ?_ | refine g_callB (Str.ofString "int") (.type "int") z_int ?_ ?_ ?_ ?_ ?_ | refine g_callB (Str.ofString "bool") (.type "bool") z_bool ?_ ?_ ?_ ?_ ?_ | refine g_callB (Str.ofString "bytes") (.type "bytes") z_bytes ?_ ?_ ?_ ?_ ?_ | refine g_callB (Str.ofString "range") (.type "range") z_range ?_ ?_ ?_ ?_ ?_); walk_at "CB"))
local macro_rules | `(tactic| walk_at "CALLK") => `(tactic| ((with_reducible first | refine g_callK (Str.ofString "plus") 128 g_plus ?_ ?_ ?_ ?_ ?_ | refine g_callK (Str.ofString "distance") 135 g_distance ?_ ?_ ?_ ?_ ?_ | refine g_callK (Str.ofString "is_before") 142 g_is_before ?_ ?_ ?_ ?_ ?_ | refine g_callK (Str.ofString "latest") 149 g_latest ?_ ?_ ?_ ?_ ?_ | refine g_callK (Str.ofString "_law_take") 389 g_law_take ?_ ?_ ?_ ?_ ?_ | refine g_callK (Str.ofString "_law_one") 396 g_law_one ?_ ?_ ?_ ?_ ?_ | refine g_callK (Str.ofString "_law_pool") 382 g_law_pool ?_ ?_ ?_ ?_ ?_ | refine g_callK (Str.ofString "_law_due") 403 g_law_due ?_ ?_ ?_ ?_ ?_ | refine g_callK (Str.ofString "_law_take_pieces") 408 g_law_take_pieces ?_ ?_ ?_ ?_ ?_ | refine g_callK (Str.ofString "_law_is_held") 415 g_law_is_held ?_ ?_ ?_ ?_ ?_ | refine g_callK (Str.ofString "_law_turn_right") 420 g_law_turn_right ?_ ?_ ?_ ?_ ?_ | refine g_callK (Str.ofString "PeerWindow") 180 g_PeerWindow ?_ ?_ ?_ ?_ ?_ | refine g_callK (Str.ofString "SendQueue") 117 g_SendQueue ?_ ?_ ?_ ?_ ?_ | refine g_callK (Str.ofString "Sender") 371 g_Sender ?_ ?_ ?_ ?_ ?_); walk_at "CK"))
local macro_rules | `(tactic| walk_at "W1") => `(tactic| first | exact ⟨rfl, rfl, Pre.rfl⟩ | (with_reducible refine e_int ?_) | (with_reducible refine e_bool ?_) | (with_reducible refine e_none ?_) | (with_reducible refine e_byt ?_) | (with_reducible refine e_add ?_) | (with_reducible refine e_sub ?_) | (with_reducible refine e_mul ?_) | (with_reducible refine e_mod ?_) | ((with_reducible refine g_prop (Str.ofString "window") 206 205 ?_ ?_); (· with_unfolding_all rfl)) | refine ⟨_, _, _, _, _, rfl, (by walk_at "MEM"), (by walk_at "MEM"), p_window, ?_⟩ | ((with_reducible refine g_attr ?_ ?_); (· with_unfolding_all rfl)) | refine ⟨_, _, _, _, _, _, _, rfl, (by walk_at "MEM"), (by walk_at "MEM"), (by walk_at "ATTR"), (by walk_at "KA"), rfl, ?_⟩ | ((with_reducible refine g_cmp ?_ ?_ ?_); (· rfl); (· with_unfolding_all rfl)) | ((with_reducible refine g_tcmp ?_ ?_ ?_); (· rfl); (· with_unfolding_all rfl)) | refine ⟨_, _, rfl, rfl, ?_⟩ | refine And.intro (by walk_at "SIDE") ?_ | ((with_reducible refine g_cons ?_ ?_); (· rfl)) | (with_reducible refine a_nil ?_) | walk_at "CALLB" | walk_at "CALLK" | ((with_reducible refine' g_meth ?_ ?_ ?_ ?_); rotate_left; (· rfl); (· rfl); (· (intro e r h; cases h <;> rfl))) | refine ⟨_, _, _, _, _, _, rfl, (by walk_at "MEM"), (by walk_at "MEM"), (by walk_at "METH"), (by walk_at "KN"), ?_⟩ | (with_reducible refine b_min ?_) | (with_reducible refine b_max ?_) | (with_reducible refine b_min3 ?_) | (with_reducible refine b_intb ?_) | (with_reducible refine b_inti ?_) | (with_reducible refine b_bool ?_) | (with_reducible refine b_bytesy ?_) | ((with_reducible refine b_leny ?_ ?_); (· (first | assumption | omega))) | (with_reducible refine e_item (slice := .Constant _ _ _) ?_) | (refine i_mapF (by walk_at "MEM") (by walk_at "KA") rfl ?_) | ((with_reducible refine g_fdiv ?_ ?_); (· rfl)) | (with_reducible refine e_neg ?_) | (with_reducible refine e_str ?_) | (with_reducible refine e_not ?_) | (with_reducible refine t_not ?_) | refine ⟨_, rfl, ?_⟩ | ((with_reducible refine g_plain ?_ ?_); (· rfl)))
section
variable {D : Dx} {k : Nat} {σ φ : Store} {P : V → Store → Prop}
local macro_rules | `(tactic| walk_at "N_distance") => `(tactic| first | ((with_reducible first | refine' g_name (Str.ofString "a") 0 ?_ ?_ ?_ | refine' g_name (Str.ofString "b") 1 ?_ ?_ ?_ | refine' g_name (Str.ofString "ring") 2 ?_ ?_ ?_); walk_at "NM"))
local macro_rules | `(tactic| walk_at "W_distance") => `(tactic| repeat (first | walk_at "N_distance" | walk_at "W1"))
theorem c_distance {a b r : Int} (hr : r ≠ 0) (h : P (.int ((b - a).fmod r)) σ) : Cl Sy D (k + 1) (.ref 135) [.int a, .int b, .int r] σ P := by
  refine' cl_def [Str.ofString "a", Str.ofString "b", Str.ofString "ring"] ?ho ?hc ?hb ?hok ?h
  (case ho => (show List.lookup _ (hd.heap_1 _) = _; k_is)); (case hc => (show codeIn (hd.heap_1 _) _ _ = true; k_is)); (case hok => kernel_rfl); (case hb => (intro s xs _ hx; (first | (obtain ⟨x1, rfl, -⟩ := VRs1 hx) | (obtain ⟨x1, x2, rfl, -⟩ := VRs2 hx) | (obtain ⟨x1, x2, x3, rfl, -⟩ := VRs3 hx) | (obtain ⟨x1, x2, x3, x4, rfl, -⟩ := VRs4 hx) | (obtain ⟨x1, x2, x3, x4, x5, rfl, -⟩ := VRs5 hx)); exact BindsTo.of_eq (by kernel_rfl))); intro L
  refine x_cons (x_ret ?_)
  walk_at "W_distance"
  exact h
local macro_rules | `(tactic| walk_at "N_plus") => `(tactic| first | ((with_reducible first | refine' g_name (Str.ofString "a") 0 ?_ ?_ ?_ | refine' g_name (Str.ofString "n") 1 ?_ ?_ ?_ | refine' g_name (Str.ofString "ring") 2 ?_ ?_ ?_); walk_at "NM"))
local macro_rules | `(tactic| walk_at "W_plus") => `(tactic| repeat (first | walk_at "N_plus" | walk_at "W1"))
theorem c_plus {a b r : Int} (hr : r ≠ 0) (h : P (.int ((a + b).fmod r)) σ) : Cl Sy D (k + 1) (.ref 128) [.int a, .int b, .int r] σ P := by
  refine' cl_def [Str.ofString "a", Str.ofString "n", Str.ofString "ring"] ?ho ?hc ?hb ?hok ?h
  (case ho => (show List.lookup _ (hd.heap_1 _) = _; k_is)); (case hc => (show codeIn (hd.heap_1 _) _ _ = true; k_is)); (case hok => kernel_rfl); (case hb => (intro s xs _ hx; (first | (obtain ⟨x1, rfl, -⟩ := VRs1 hx) | (obtain ⟨x1, x2, rfl, -⟩ := VRs2 hx) | (obtain ⟨x1, x2, x3, rfl, -⟩ := VRs3 hx) | (obtain ⟨x1, x2, x3, x4, rfl, -⟩ := VRs4 hx) | (obtain ⟨x1, x2, x3, x4, x5, rfl, -⟩ := VRs5 hx)); exact BindsTo.of_eq (by kernel_rfl))); intro L
  refine x_cons (x_ret ?_)
  walk_at "W_plus"
  exact h
local macro_rules | `(tactic| walk_at "N_is_before") => `(tactic| first | ((with_reducible first | refine' g_name (Str.ofString "a") 0 ?_ ?_ ?_ | refine' g_name (Str.ofString "b") 1 ?_ ?_ ?_ | refine' g_name (Str.ofString "ring") 2 ?_ ?_ ?_ | refine' g_name (Str.ofString "gap") 3 ?_ ?_ ?_); walk_at "NM"))
local macro_rules | `(tactic| walk_at "W_is_before") => `(tactic| repeat (first | walk_at "N_is_before" | walk_at "W1"))
theorem c_is_before {a b r : Int} (hr : r ≠ 0) (h : P (.bool (decide (0 < (b - a).fmod r) && decide (2 * (b - a).fmod r < r))) σ) : Cl Sy D (k + 2) (.ref 142) [.int a, .int b, .int r] σ P := by
  refine' cl_def [Str.ofString "a", Str.ofString "b", Str.ofString "ring"] ?ho ?hc ?hb ?hok ?h
  (case ho => (show List.lookup _ (hd.heap_1 _) = _; k_is)); (case hc => (show codeIn (hd.heap_1 _) _ _ = true; k_is)); (case hok => kernel_rfl); (case hb => (intro s xs _ hx; (first | (obtain ⟨x1, rfl, -⟩ := VRs1 hx) | (obtain ⟨x1, x2, rfl, -⟩ := VRs2 hx) | (obtain ⟨x1, x2, x3, rfl, -⟩ := VRs3 hx) | (obtain ⟨x1, x2, x3, x4, rfl, -⟩ := VRs4 hx) | (obtain ⟨x1, x2, x3, x4, x5, rfl, -⟩ := VRs5 hx)); exact BindsTo.of_eq (by kernel_rfl))); intro L
  refine x_cons (x_assignF (Str.ofString "gap") 3 ?_)
  walk_at "W_is_before"
  refine c_distance hr ?_
  refine x_cons (x_ret ?_)
  refine e_and ?_
  walk_at "W_is_before"
  refine ⟨fun h1 => ?_, fun h1 => ?_⟩
  · refine pv_one ?_
    walk_at "W_is_before"
    simp only [cmpZ] at h1
    rw [h1] at h
    exact h
  · simp only [cmpZ] at h1
    rw [h1] at h
    exact h
local macro_rules | `(tactic| walk_at "N_latest") => `(tactic| first | ((with_reducible first | refine' g_name (Str.ofString "a") 0 ?_ ?_ ?_ | refine' g_name (Str.ofString "b") 1 ?_ ?_ ?_ | refine' g_name (Str.ofString "ring") 2 ?_ ?_ ?_); walk_at "NM"))
local macro_rules | `(tactic| walk_at "W_latest") => `(tactic| repeat (first | walk_at "N_latest" | walk_at "W1"))
theorem c_latest {a b r : Int} (hr : r ≠ 0) (h : P (.int (if (decide (0 < (b - a).fmod r) && decide (2 * (b - a).fmod r < r)) = true then b else a)) σ) : Cl Sy D (k + 3) (.ref 149) [.int a, .int b, .int r] σ P := by
  refine' cl_def [Str.ofString "a", Str.ofString "b", Str.ofString "ring"] ?ho ?hc ?hb ?hok ?h
  (case ho => (show List.lookup _ (hd.heap_1 _) = _; k_is)); (case hc => (show codeIn (hd.heap_1 _) _ _ = true; k_is)); (case hok => kernel_rfl); (case hb => (intro s xs _ hx; (first | (obtain ⟨x1, rfl, -⟩ := VRs1 hx) | (obtain ⟨x1, x2, rfl, -⟩ := VRs2 hx) | (obtain ⟨x1, x2, x3, rfl, -⟩ := VRs3 hx) | (obtain ⟨x1, x2, x3, x4, rfl, -⟩ := VRs4 hx) | (obtain ⟨x1, x2, x3, x4, x5, rfl, -⟩ := VRs5 hx)); exact BindsTo.of_eq (by kernel_rfl))); intro L
  refine x_cons (x_ret ?_)
  refine e_if ?_
  refine t_plain ?_
  walk_at "W_latest"
  refine c_is_before hr ?_
  refine ⟨_, rfl, fun h1 => ?_, fun h1 => ?_⟩
  · rw [h1, if_pos rfl] at h
    walk_at "W_latest"
    exact h
  · rw [h1, if_neg (by decide)] at h
    walk_at "W_latest"
    exact h
end
section
theorem fm_eq {a r : Int} (hr : 0 < r) : a.fmod r = a % r := Int.fmod_eq_emod_of_nonneg a (Int.le_of_lt hr)
theorem fm_sub {i n u r : Int} (hr : 0 < r) (h1 : u ≤ n) (h2 : n - u < r) : ((i + n).fmod r - (i + u).fmod r).fmod r = n - u := by
  rw [fm_eq hr, fm_eq hr, fm_eq hr, ← Int.sub_emod, show i + n - (i + u) = n - u by omega]
  exact Int.emod_eq_of_lt (by omega) h2
theorem fm_add {i n a r : Int} (hr : 0 < r) : ((i + n).fmod r + a).fmod r = (i + (n + a)).fmod r := by
  rw [fm_eq hr, fm_eq hr, fm_eq hr, Int.emod_add_emod, Int.add_assoc]
theorem fm_latest {i n m r : Int} (hr : 0 < r) (h1 : 2 * (n - m) < r) (h2 : 2 * (m - n) ≤ r) :
    (if (decide (0 < ((i + n).fmod r - (i + m).fmod r).fmod r) && decide (2 * ((i + n).fmod r - (i + m).fmod r).fmod r < r)) = true then (i + n).fmod r else (i + m).fmod r) = (i + max m n).fmod r := by
  rcases Int.lt_trichotomy m n with c | c | c
  · rw [fm_sub hr (by omega) (by omega), if_pos (by simp; omega), Int.max_eq_right (by omega)]
  · subst c
    rw [fm_sub hr (by omega) (by omega), if_neg (by simp), Int.max_self]
  · have e : ((i + n).fmod r - (i + m).fmod r).fmod r = n - m + r := by
      rw [fm_eq hr, fm_eq hr, fm_eq hr, ← Int.sub_emod, show i + n - (i + m) = n - m by omega, ← Int.add_emod_right]
      exact Int.emod_eq_of_lt (by omega) (by omega)
    rw [e, if_neg (by simp; omega), Int.max_eq_left (by omega)]
abbrev AS (x d p pd q qd : Addr) (iss ring mss u n m : Int) (syn asked sent : Bool) (size most : Int) (told : V) (tack room : Int) (held : List UInt8) (φ : Store) : Store :=
  (x, .inst 371 d) :: (d, .dict KS [.int iss, .int ring, .int mss, .int ((iss + u).fmod ring), .int ((iss + n).fmod ring), .int ((iss + m).fmod ring), .ref p, .ref q, .bool syn, .bool asked, .bool sent]) ::
  (p, .inst 180 pd) :: (pd, .dict KP [.int ring, .int size, .int most, told, .int tack]) :: (q, .inst 117 qd) :: (qd, .dict KQ [.int room, .byt held]) :: φ
variable {D : Dx} {k : Nat} {σ φ : Store} {P : V → Store → Prop} {x d p pd q qd : Addr} {iss ring mss u n m size most tack room : Int} {told : V} {syn asked sent : Bool} {held : List UInt8}
local macro_rules | `(tactic| walk_at "N_SendQueue.size") => `(tactic| first | ((with_reducible first | refine' g_name (Str.ofString "self") 0 ?_ ?_ ?_); walk_at "NM"))
local macro_rules | `(tactic| walk_at "W_SendQueue.size") => `(tactic| repeat (first | walk_at "N_SendQueue.size" | walk_at "W1"))
theorem c_qsize (hb : held.length ≤ 1000000) (h : P (.int held.length) (AS x d p pd q qd iss ring mss u n m syn asked sent size most told tack room held φ)) : Cl Sy D (k + 1) (.ref 86) [.ref q] (AS x d p pd q qd iss ring mss u n m syn asked sent size most told tack room held φ) P := by
  refine' cl_def [Str.ofString "self"] ?ho ?hc ?hb ?hok ?h
  (case ho => (show List.lookup _ (hd.heap_1 _) = _; k_is)); (case hc => (show codeIn (hd.heap_1 _) _ _ = true; k_is)); (case hok => kernel_rfl); (case hb => (intro s xs _ hx; (first | (obtain ⟨x1, rfl, -⟩ := VRs1 hx) | (obtain ⟨x1, x2, rfl, -⟩ := VRs2 hx) | (obtain ⟨x1, x2, x3, rfl, -⟩ := VRs3 hx) | (obtain ⟨x1, x2, x3, x4, rfl, -⟩ := VRs4 hx) | (obtain ⟨x1, x2, x3, x4, x5, rfl, -⟩ := VRs5 hx)); exact BindsTo.of_eq (by kernel_rfl))); intro L
  refine x_cons (x_ret ?_)
  walk_at "W_SendQueue.size"
  exact h
local macro_rules | `(tactic| walk_at "N_SendQueue.room_left") => `(tactic| first | ((with_reducible first | refine' g_name (Str.ofString "self") 0 ?_ ?_ ?_); walk_at "NM"))
local macro_rules | `(tactic| walk_at "W_SendQueue.room_left") => `(tactic| repeat (first | walk_at "N_SendQueue.room_left" | walk_at "W1"))
theorem c_room_left (hb : held.length ≤ 1000000) (h : P (.int (room - held.length)) (AS x d p pd q qd iss ring mss u n m syn asked sent size most told tack room held φ)) : Cl Sy D (k + 1) (.ref 93) [.ref q] (AS x d p pd q qd iss ring mss u n m syn asked sent size most told tack room held φ) P := by
  refine' cl_def [Str.ofString "self"] ?ho ?hc ?hb ?hok ?h
  (case ho => (show List.lookup _ (hd.heap_1 _) = _; k_is)); (case hc => (show codeIn (hd.heap_1 _) _ _ = true; k_is)); (case hok => kernel_rfl); (case hb => (intro s xs _ hx; (first | (obtain ⟨x1, rfl, -⟩ := VRs1 hx) | (obtain ⟨x1, x2, rfl, -⟩ := VRs2 hx) | (obtain ⟨x1, x2, x3, rfl, -⟩ := VRs3 hx) | (obtain ⟨x1, x2, x3, x4, rfl, -⟩ := VRs4 hx) | (obtain ⟨x1, x2, x3, x4, x5, rfl, -⟩ := VRs5 hx)); exact BindsTo.of_eq (by kernel_rfl))); intro L
  refine x_cons (x_ret ?_)
  walk_at "W_SendQueue.room_left"
  exact h
local macro_rules | `(tactic| walk_at "N_SendQueue.put") => `(tactic| first | ((with_reducible first | refine' g_name (Str.ofString "self") 0 ?_ ?_ ?_ | refine' g_name (Str.ofString "octets") 1 ?_ ?_ ?_ | refine' g_name (Str.ofString "taken") 2 ?_ ?_ ?_); walk_at "NM"))
local macro_rules | `(tactic| walk_at "W_SendQueue.put") => `(tactic| repeat (first | walk_at "N_SendQueue.put" | walk_at "W1"))
theorem c_qput {o : List UInt8} (hb : held.length ≤ 1000000) (ho : o.length ≤ 1000000) (h : P (.int (min o.length (room - held.length))) (AS x d p pd q qd iss ring mss u n m syn asked sent size most told tack room (held ++ bcut o .none (.int (min o.length (room - held.length)))) φ)) :
    Cl Sy D (k + 2) (.ref 100) [.ref q, .byt o] (AS x d p pd q qd iss ring mss u n m syn asked sent size most told tack room held φ) P := by
  refine' cl_def [Str.ofString "self", Str.ofString "octets"] ?ho ?hc ?hb ?hok ?h
  (case ho => (show List.lookup _ (hd.heap_1 _) = _; k_is)); (case hc => (show codeIn (hd.heap_1 _) _ _ = true; k_is)); (case hok => kernel_rfl); (case hb => (intro s xs _ hx; (first | (obtain ⟨x1, rfl, -⟩ := VRs1 hx) | (obtain ⟨x1, x2, rfl, -⟩ := VRs2 hx) | (obtain ⟨x1, x2, x3, rfl, -⟩ := VRs3 hx) | (obtain ⟨x1, x2, x3, x4, rfl, -⟩ := VRs4 hx) | (obtain ⟨x1, x2, x3, x4, x5, rfl, -⟩ := VRs5 hx)); exact BindsTo.of_eq (by kernel_rfl))); intro L
  refine x_cons (x_assignF (Str.ofString "taken") 2 ?_)
  walk_at "W_SendQueue.put"
  refine c_room_left hb ?_
  walk_at "W_SendQueue.put"
  refine x_cons (g_setattr rfl ?_)
  refine e_addy ?_
  walk_at "W_SendQueue.put"
  refine e_cutB ?_
  walk_at "W_SendQueue.put"
  refine p_none ?_
  refine p_some ?_
  walk_at "W_SendQueue.put"
  refine ⟨?_, ?_⟩
  · unfold bcut
    rw [List.length_take, List.length_drop]
    omega
  walk_at "W_SendQueue.put"
  refine ⟨_, _, _, _, _, _, rfl, (by walk_at "MEM"), (by walk_at "SETA"), by decide, atK (by walk_at "KA") rfl (.tail (.tail (.tail (.tail (.tail .head))))), ?_⟩
  refine x_cons (x_ret ?_)
  walk_at "W_SendQueue.put"
  exact h
end
section
variable {D : Dx} {k : Nat} {σ φ : Store} {P : V → Store → Prop} {x d p pd q qd : Addr} {iss ring mss u n m size most tack room : Int} {told : V} {syn asked sent : Bool} {held : List UInt8}
local macro_rules | `(tactic| walk_at "N_SendQueue.part") => `(tactic| first | ((with_reducible first | refine' g_name (Str.ofString "self") 0 ?_ ?_ ?_ | refine' g_name (Str.ofString "at") 1 ?_ ?_ ?_ | refine' g_name (Str.ofString "many") 2 ?_ ?_ ?_); walk_at "NM"))
local macro_rules | `(tactic| walk_at "W_SendQueue.part") => `(tactic| repeat (first | walk_at "N_SendQueue.part" | walk_at "W1"))
theorem c_part {a b : Int} (ha : 0 ≤ a) (hb0 : 0 ≤ b) (hab : a + b ≤ held.length) (hb : held.length ≤ 1000000) (h : P (.byt (bcut held (.int a) (.int (a + b)))) (AS x d p pd q qd iss ring mss u n m syn asked sent size most told tack room held φ)) : Cl Sy D (k + 1) (.ref 107) [.ref q, .int a, .int b] (AS x d p pd q qd iss ring mss u n m syn asked sent size most told tack room held φ) P := by
  refine' cl_def [Str.ofString "self", Str.ofString "at", Str.ofString "many"] ?ho ?hc ?hb ?hok ?h
  (case ho => (show List.lookup _ (hd.heap_1 _) = _; k_is)); (case hc => (show codeIn (hd.heap_1 _) _ _ = true; k_is)); (case hok => kernel_rfl); (case hb => (intro s xs _ hx; (first | (obtain ⟨x1, rfl, -⟩ := VRs1 hx) | (obtain ⟨x1, x2, rfl, -⟩ := VRs2 hx) | (obtain ⟨x1, x2, x3, rfl, -⟩ := VRs3 hx) | (obtain ⟨x1, x2, x3, x4, rfl, -⟩ := VRs4 hx) | (obtain ⟨x1, x2, x3, x4, x5, rfl, -⟩ := VRs5 hx)); exact BindsTo.of_eq (by kernel_rfl))); intro L
  refine x_cons (x_if ?_)
  refine t_or ?_
  walk_at "W_SendQueue.part"
  refine ⟨fun _ => ?_, fun hc => absurd hc (by simp only [cmpZ, decide_eq_true_eq]; omega)⟩
  refine t_or ?_
  walk_at "W_SendQueue.part"
  refine ⟨fun _ => ?_, fun hc => absurd hc (by simp only [cmpZ, decide_eq_true_eq]; omega)⟩
  refine t_or ?_
  walk_at "W_SendQueue.part"
  refine ⟨fun _ => ?_, fun hc => absurd hc (by simp only [cmpZ, decide_eq_true_eq]; omega)⟩
  refine pt pt_or0 ?_
  refine ⟨fun hc => (nomatch hc), fun _ => ?_⟩
  refine x_nil ?_
  refine x_cons (x_ret ?_)
  refine e_cutB ?_
  walk_at "W_SendQueue.part"
  refine p_some ?_
  walk_at "W_SendQueue.part"
  refine p_some ?_
  walk_at "W_SendQueue.part"
  exact h
local macro_rules | `(tactic| walk_at "N_SendQueue.drop") => `(tactic| first | ((with_reducible first | refine' g_name (Str.ofString "self") 0 ?_ ?_ ?_ | refine' g_name (Str.ofString "many") 1 ?_ ?_ ?_); walk_at "NM"))
local macro_rules | `(tactic| walk_at "W_SendQueue.drop") => `(tactic| repeat (first | walk_at "N_SendQueue.drop" | walk_at "W1"))
theorem c_drop {b : Int} (hb0 : 0 ≤ b) (hab : b ≤ held.length) (hb : held.length ≤ 1000000) (h : P .none (AS x d p pd q qd iss ring mss u n m syn asked sent size most told tack room (bcut held (.int b) .none) φ)) : Cl Sy D (k + 1) (.ref 114) [.ref q, .int b] (AS x d p pd q qd iss ring mss u n m syn asked sent size most told tack room held φ) P := by
  refine' cl_def [Str.ofString "self", Str.ofString "many"] ?ho ?hc ?hb ?hok ?h
  (case ho => (show List.lookup _ (hd.heap_1 _) = _; k_is)); (case hc => (show codeIn (hd.heap_1 _) _ _ = true; k_is)); (case hok => kernel_rfl); (case hb => (intro s xs _ hx; (first | (obtain ⟨x1, rfl, -⟩ := VRs1 hx) | (obtain ⟨x1, x2, rfl, -⟩ := VRs2 hx) | (obtain ⟨x1, x2, x3, rfl, -⟩ := VRs3 hx) | (obtain ⟨x1, x2, x3, x4, rfl, -⟩ := VRs4 hx) | (obtain ⟨x1, x2, x3, x4, x5, rfl, -⟩ := VRs5 hx)); exact BindsTo.of_eq (by kernel_rfl))); intro L
  refine x_cons (x_if ?_)
  refine t_or ?_
  walk_at "W_SendQueue.drop"
  refine ⟨fun _ => ?_, fun hc => absurd hc (by simp only [cmpZ, decide_eq_true_eq]; omega)⟩
  refine t_or ?_
  walk_at "W_SendQueue.drop"
  refine ⟨fun _ => ?_, fun hc => absurd hc (by simp only [cmpZ, decide_eq_true_eq]; omega)⟩
  refine pt pt_or0 ?_
  refine ⟨fun hc => (nomatch hc), fun _ => ?_⟩
  refine x_nil ?_
  refine x_cons (g_setattr rfl ?_)
  refine e_cutB ?_
  walk_at "W_SendQueue.drop"
  refine p_some ?_
  walk_at "W_SendQueue.drop"
  refine p_none ?_
  walk_at "W_SendQueue.drop"
  refine ⟨_, _, _, _, _, _, rfl, (by walk_at "MEM"), (by walk_at "SETA"), by decide, atK (by walk_at "KA") rfl (.tail (.tail (.tail (.tail (.tail .head))))), ?_⟩
  exact x_nil h
local macro_rules | `(tactic| walk_at "N_PeerWindow.is_newer") => `(tactic| first | ((with_reducible first | refine' g_name (Str.ofString "self") 0 ?_ ?_ ?_ | refine' g_name (Str.ofString "seq") 1 ?_ ?_ ?_ | refine' g_name (Str.ofString "ack") 2 ?_ ?_ ?_ | refine' g_name (Str.ofString "ahead") 3 ?_ ?_ ?_); walk_at "NM"))
local macro_rules | `(tactic| walk_at "W_PeerWindow.is_newer") => `(tactic| repeat (first | walk_at "N_PeerWindow.is_newer" | walk_at "W1"))
theorem c_newer_none {seq ack : Int} (h : P (.bool true) (AS x d p pd q qd iss ring mss u n m syn asked sent size most .none tack room held φ)) :
    Cl Sy D (k + 2) (.ref 170) [.ref p, .int seq, .int ack] (AS x d p pd q qd iss ring mss u n m syn asked sent size most .none tack room held φ) P := by
  refine' cl_def [Str.ofString "self", Str.ofString "seq", Str.ofString "ack"] ?ho ?hc ?hb ?hok ?h
  (case ho => (show List.lookup _ (hd.heap_1 _) = _; k_is)); (case hc => (show codeIn (hd.heap_1 _) _ _ = true; k_is)); (case hok => kernel_rfl); (case hb => (intro s xs _ hx; (first | (obtain ⟨x1, rfl, -⟩ := VRs1 hx) | (obtain ⟨x1, x2, rfl, -⟩ := VRs2 hx) | (obtain ⟨x1, x2, x3, rfl, -⟩ := VRs3 hx) | (obtain ⟨x1, x2, x3, x4, rfl, -⟩ := VRs4 hx) | (obtain ⟨x1, x2, x3, x4, x5, rfl, -⟩ := VRs5 hx)); exact BindsTo.of_eq (by kernel_rfl))); intro L
  refine x_cons (x_if ?_)
  refine t_cmpG ?_
  walk_at "W_PeerWindow.is_newer"
  refine fun _ _ hx hy => c_is ?_ hx hy
  refine ⟨_, rfl, fun _ => ?_, fun hc => (nomatch hc)⟩
  refine x_cons (x_ret ?_)
  walk_at "W_PeerWindow.is_newer"
  exact h
theorem c_newer_some {t seq ack : Int} (hr : 0 < ring) (hdd : (seq - t).fmod ring ≠ 0) (h : P (.bool (decide ((seq - t).fmod ring < ring.fdiv 2))) (AS x d p pd q qd iss ring mss u n m syn asked sent size most (.int t) tack room held φ)) :
    Cl Sy D (k + 2) (.ref 170) [.ref p, .int seq, .int ack] (AS x d p pd q qd iss ring mss u n m syn asked sent size most (.int t) tack room held φ) P := by
  refine' cl_def [Str.ofString "self", Str.ofString "seq", Str.ofString "ack"] ?ho ?hc ?hb ?hok ?h
  (case ho => (show List.lookup _ (hd.heap_1 _) = _; k_is)); (case hc => (show codeIn (hd.heap_1 _) _ _ = true; k_is)); (case hok => kernel_rfl); (case hb => (intro s xs _ hx; (first | (obtain ⟨x1, rfl, -⟩ := VRs1 hx) | (obtain ⟨x1, x2, rfl, -⟩ := VRs2 hx) | (obtain ⟨x1, x2, x3, rfl, -⟩ := VRs3 hx) | (obtain ⟨x1, x2, x3, x4, rfl, -⟩ := VRs4 hx) | (obtain ⟨x1, x2, x3, x4, x5, rfl, -⟩ := VRs5 hx)); exact BindsTo.of_eq (by kernel_rfl))); intro L
  refine x_cons (x_if ?_)
  refine t_cmpG ?_
  walk_at "W_PeerWindow.is_newer"
  refine fun _ _ hx hy => c_is ?_ hx hy
  refine ⟨_, rfl, fun hc => (nomatch hc), fun _ => ?_⟩
  refine x_nil ?_
  refine x_cons (x_assignF (Str.ofString "ahead") 3 ?_)
  walk_at "W_PeerWindow.is_newer"
  refine c_distance (by omega) ?_
  refine x_cons (x_if ?_)
  walk_at "W_PeerWindow.is_newer"
  refine ⟨fun hc => absurd hc (by simp only [cmpZ, decide_eq_true_eq]; exact hdd), fun _ => ?_⟩
  refine x_nil ?_
  refine x_cons (x_ret ?_)
  walk_at "W_PeerWindow.is_newer"
  exact h
local macro_rules | `(tactic| walk_at "N_PeerWindow.take") => `(tactic| first | ((with_reducible first | refine' g_name (Str.ofString "self") 0 ?_ ?_ ?_ | refine' g_name (Str.ofString "seq") 1 ?_ ?_ ?_ | refine' g_name (Str.ofString "ack") 2 ?_ ?_ ?_ | refine' g_name (Str.ofString "size") 3 ?_ ?_ ?_); walk_at "NM"))
local macro_rules | `(tactic| walk_at "W_PeerWindow.take") => `(tactic| repeat (first | walk_at "N_PeerWindow.take" | walk_at "W1"))
theorem c_take {seq ack w : Int} {b : Bool} (hn : ∀ {P : V → Store → Prop}, P (.bool b) (AS x d p pd q qd iss ring mss u n m syn asked sent size most told tack room held φ) → Cl Sy D (k + 2) (.ref 170) [.ref p, .int seq, .int ack] (AS x d p pd q qd iss ring mss u n m syn asked sent size most told tack room held φ) P)
    (h1 : b = true → P (.bool true) (AS x d p pd q qd iss ring mss u n m syn asked sent w (max most w) (.int seq) ack room held φ)) (h0 : b = false → P (.bool false) (AS x d p pd q qd iss ring mss u n m syn asked sent size most told tack room held φ)) :
    Cl Sy D (k + 3) (.ref 177) [.ref p, .int seq, .int ack, .int w] (AS x d p pd q qd iss ring mss u n m syn asked sent size most told tack room held φ) P := by
  refine' cl_def [Str.ofString "self", Str.ofString "seq", Str.ofString "ack", Str.ofString "size"] ?ho ?hc ?hb ?hok ?h
  (case ho => (show List.lookup _ (hd.heap_1 _) = _; k_is)); (case hc => (show codeIn (hd.heap_1 _) _ _ = true; k_is)); (case hok => kernel_rfl); (case hb => (intro s xs _ hx; (first | (obtain ⟨x1, rfl, -⟩ := VRs1 hx) | (obtain ⟨x1, x2, rfl, -⟩ := VRs2 hx) | (obtain ⟨x1, x2, x3, rfl, -⟩ := VRs3 hx) | (obtain ⟨x1, x2, x3, x4, rfl, -⟩ := VRs4 hx) | (obtain ⟨x1, x2, x3, x4, x5, rfl, -⟩ := VRs5 hx)); exact BindsTo.of_eq (by kernel_rfl))); intro L
  refine x_cons (x_if ?_)
  refine t_not ?_
  walk_at "W_PeerWindow.take"
  refine hn ?_
  refine ⟨_, rfl, fun hc => ?_, fun hc => ?_⟩
  · refine x_cons (x_ret ?_)
    walk_at "W_PeerWindow.take"
    exact h0 (by simpa using hc)
  refine x_nil ?_
  refine x_cons (g_setattr rfl ?_)
  walk_at "W_PeerWindow.take"
  refine ⟨_, _, _, _, _, _, rfl, (by walk_at "MEM"), (by walk_at "SETA"), by decide, atK (by walk_at "KA") rfl (.tail (.tail (.tail .head))), ?_⟩
  refine x_cons (g_setattr rfl ?_)
  walk_at "W_PeerWindow.take"
  refine ⟨_, _, _, _, _, _, rfl, (by walk_at "MEM"), (by walk_at "SETA"), by decide, atK (by walk_at "KA") rfl (.tail (.tail (.tail .head))), ?_⟩
  refine x_cons (g_setattr rfl ?_)
  walk_at "W_PeerWindow.take"
  refine ⟨_, _, _, _, _, _, rfl, (by walk_at "MEM"), (by walk_at "SETA"), by decide, atK (by walk_at "KA") rfl (.tail (.tail (.tail .head))), ?_⟩
  refine x_cons (g_setattr rfl ?_)
  walk_at "W_PeerWindow.take"
  refine ⟨_, _, _, _, _, _, rfl, (by walk_at "MEM"), (by walk_at "SETA"), by decide, atK (by walk_at "KA") rfl (.tail (.tail (.tail .head))), ?_⟩
  refine x_cons (x_ret ?_)
  walk_at "W_PeerWindow.take"
  exact h1 (by simpa using hc)
local macro_rules | `(tactic| walk_at "N_Sender.window") => `(tactic| first | ((with_reducible first | refine' g_name (Str.ofString "self") 0 ?_ ?_ ?_); walk_at "NM"))
local macro_rules | `(tactic| walk_at "W_Sender.window") => `(tactic| repeat (first | walk_at "N_Sender.window" | walk_at "W1"))
theorem c_window (h : P (.int size) (AS x d p pd q qd iss ring mss u n m syn asked sent size most told tack room held φ)) : Cl Sy D (k + 1) (.ref 205) [.ref x] (AS x d p pd q qd iss ring mss u n m syn asked sent size most told tack room held φ) P := by
  refine' cl_def [Str.ofString "self"] ?ho ?hc ?hb ?hok ?h
  (case ho => (show List.lookup _ (hd.heap_1 _) = _; k_is)); (case hc => (show codeIn (hd.heap_1 _) _ _ = true; k_is)); (case hok => kernel_rfl); (case hb => (intro s xs _ hx; (first | (obtain ⟨x1, rfl, -⟩ := VRs1 hx) | (obtain ⟨x1, x2, rfl, -⟩ := VRs2 hx) | (obtain ⟨x1, x2, x3, rfl, -⟩ := VRs3 hx) | (obtain ⟨x1, x2, x3, x4, rfl, -⟩ := VRs4 hx) | (obtain ⟨x1, x2, x3, x4, x5, rfl, -⟩ := VRs5 hx)); exact BindsTo.of_eq (by kernel_rfl))); intro L
  refine x_cons (x_ret ?_)
  walk_at "W_Sender.window"
  exact h
local macro_rules | `(tactic| walk_at "N_Sender.take_window") => `(tactic| first | ((with_reducible first | refine' g_name (Str.ofString "self") 0 ?_ ?_ ?_ | refine' g_name (Str.ofString "seq") 1 ?_ ?_ ?_ | refine' g_name (Str.ofString "ack") 2 ?_ ?_ ?_ | refine' g_name (Str.ofString "window") 3 ?_ ?_ ?_); walk_at "NM"))
local macro_rules | `(tactic| walk_at "W_Sender.take_window") => `(tactic| repeat (first | walk_at "N_Sender.take_window" | walk_at "W1"))
theorem c_take_window {seq ack w : Int} {b : Bool} (hn : ∀ {P : V → Store → Prop}, P (.bool b) (AS x d p pd q qd iss ring mss u n m syn asked sent size most told tack room held φ) → Cl Sy D (k + 2) (.ref 170) [.ref p, .int seq, .int ack] (AS x d p pd q qd iss ring mss u n m syn asked sent size most told tack room held φ) P)
    (h1 : b = true → P (.bool true) (AS x d p pd q qd iss ring mss u n m syn asked sent w (max most w) (.int seq) ack room held φ)) (h0 : b = false → P (.bool false) (AS x d p pd q qd iss ring mss u n m syn asked sent size most told tack room held φ)) :
    Cl Sy D (k + 4) (.ref 213) [.ref x, .int seq, .int ack, .int w] (AS x d p pd q qd iss ring mss u n m syn asked sent size most told tack room held φ) P := by
  refine' cl_def [Str.ofString "self", Str.ofString "seq", Str.ofString "ack", Str.ofString "window"] ?ho ?hc ?hb ?hok ?h
  (case ho => (show List.lookup _ (hd.heap_1 _) = _; k_is)); (case hc => (show codeIn (hd.heap_1 _) _ _ = true; k_is)); (case hok => kernel_rfl); (case hb => (intro s xs _ hx; (first | (obtain ⟨x1, rfl, -⟩ := VRs1 hx) | (obtain ⟨x1, x2, rfl, -⟩ := VRs2 hx) | (obtain ⟨x1, x2, x3, rfl, -⟩ := VRs3 hx) | (obtain ⟨x1, x2, x3, x4, rfl, -⟩ := VRs4 hx) | (obtain ⟨x1, x2, x3, x4, x5, rfl, -⟩ := VRs5 hx)); exact BindsTo.of_eq (by kernel_rfl))); intro L
  refine x_cons (x_ret ?_)
  walk_at "W_Sender.take_window"
  exact c_take hn h1 h0
local macro_rules | `(tactic| walk_at "N_Sender.put") => `(tactic| first | ((with_reducible first | refine' g_name (Str.ofString "self") 0 ?_ ?_ ?_ | refine' g_name (Str.ofString "octets") 1 ?_ ?_ ?_); walk_at "NM"))
local macro_rules | `(tactic| walk_at "W_Sender.put") => `(tactic| repeat (first | walk_at "N_Sender.put" | walk_at "W1"))
theorem c_put {o : List UInt8} (ha : asked = false) (hb : held.length ≤ 1000000) (ho : o.length ≤ 1000000) (h : P (.int (min o.length (room - held.length))) (AS x d p pd q qd iss ring mss u n m syn asked sent size most told tack room (held ++ bcut o .none (.int (min o.length (room - held.length)))) φ)) :
    Cl Sy D (k + 3) (.ref 220) [.ref x, .byt o] (AS x d p pd q qd iss ring mss u n m syn asked sent size most told tack room held φ) P := by
  refine' cl_def [Str.ofString "self", Str.ofString "octets"] ?ho ?hc ?hb ?hok ?h
  (case ho => (show List.lookup _ (hd.heap_1 _) = _; k_is)); (case hc => (show codeIn (hd.heap_1 _) _ _ = true; k_is)); (case hok => kernel_rfl); (case hb => (intro s xs _ hx; (first | (obtain ⟨x1, rfl, -⟩ := VRs1 hx) | (obtain ⟨x1, x2, rfl, -⟩ := VRs2 hx) | (obtain ⟨x1, x2, x3, rfl, -⟩ := VRs3 hx) | (obtain ⟨x1, x2, x3, x4, rfl, -⟩ := VRs4 hx) | (obtain ⟨x1, x2, x3, x4, x5, rfl, -⟩ := VRs5 hx)); exact BindsTo.of_eq (by kernel_rfl))); intro L
  refine x_cons (x_if ?_)
  walk_at "W_Sender.put"
  subst ha
  refine ⟨fun hc => (nomatch hc), fun _ => ?_⟩
  refine x_nil ?_
  refine x_cons (x_ret ?_)
  walk_at "W_Sender.put"
  exact c_qput hb ho h
local macro_rules | `(tactic| walk_at "N_Sender.ask_fin") => `(tactic| first | ((with_reducible first | refine' g_name (Str.ofString "self") 0 ?_ ?_ ?_); walk_at "NM"))
local macro_rules | `(tactic| walk_at "W_Sender.ask_fin") => `(tactic| repeat (first | walk_at "N_Sender.ask_fin" | walk_at "W1"))
theorem c_ask_fin (h : P .none (AS x d p pd q qd iss ring mss u n m syn true sent size most told tack room held φ)) : Cl Sy D (k + 1) (.ref 227) [.ref x] (AS x d p pd q qd iss ring mss u n m syn asked sent size most told tack room held φ) P := by
  refine' cl_def [Str.ofString "self"] ?ho ?hc ?hb ?hok ?h
  (case ho => (show List.lookup _ (hd.heap_1 _) = _; k_is)); (case hc => (show codeIn (hd.heap_1 _) _ _ = true; k_is)); (case hok => kernel_rfl); (case hb => (intro s xs _ hx; (first | (obtain ⟨x1, rfl, -⟩ := VRs1 hx) | (obtain ⟨x1, x2, rfl, -⟩ := VRs2 hx) | (obtain ⟨x1, x2, x3, rfl, -⟩ := VRs3 hx) | (obtain ⟨x1, x2, x3, x4, rfl, -⟩ := VRs4 hx) | (obtain ⟨x1, x2, x3, x4, x5, rfl, -⟩ := VRs5 hx)); exact BindsTo.of_eq (by kernel_rfl))); intro L
  refine x_cons (g_setattr rfl ?_)
  walk_at "W_Sender.ask_fin"
  refine ⟨_, _, _, _, _, _, rfl, (by walk_at "MEM"), (by walk_at "SETA"), by decide, atK (by walk_at "KA") rfl (.tail .head), ?_⟩
  exact x_nil h
end
section
theorem fm_inj {i n u r : Int} (hr : 0 < r) (h1 : u ≤ n) (h2 : n - u < r) : decide ((i + u).fmod r = (i + n).fmod r) = decide (u = n) := by
  have := fm_sub (i := i) hr h1 h2
  by_cases c : u = n
  · subst c; simp
  · rw [decide_eq_false c, decide_eq_false]
    intro e
    rw [e, Int.sub_self, Int.zero_fmod] at this
    omega
variable {D : Dx} {k : Nat} {σ φ : Store} {P : V → Store → Prop} {x d p pd q qd : Addr} {iss ring mss u n m size most tack room : Int} {told : V} {syn asked sent : Bool} {held : List UInt8}
local macro_rules | `(tactic| walk_at "N_Sender.flight") => `(tactic| first | ((with_reducible first | refine' g_name (Str.ofString "self") 0 ?_ ?_ ?_); walk_at "NM"))
local macro_rules | `(tactic| walk_at "W_Sender.flight") => `(tactic| repeat (first | walk_at "N_Sender.flight" | walk_at "W1"))
theorem c_flight (hr : 0 < ring) (h1 : u ≤ n) (h2 : n - u < ring) (h : P (.int (n - u)) (AS x d p pd q qd iss ring mss u n m syn asked sent size most told tack room held φ)) : Cl Sy D (k + 2) (.ref 234) [.ref x] (AS x d p pd q qd iss ring mss u n m syn asked sent size most told tack room held φ) P := by
  refine' cl_def [Str.ofString "self"] ?ho ?hc ?hb ?hok ?h
  (case ho => (show List.lookup _ (hd.heap_1 _) = _; k_is)); (case hc => (show codeIn (hd.heap_1 _) _ _ = true; k_is)); (case hok => kernel_rfl); (case hb => (intro s xs _ hx; (first | (obtain ⟨x1, rfl, -⟩ := VRs1 hx) | (obtain ⟨x1, x2, rfl, -⟩ := VRs2 hx) | (obtain ⟨x1, x2, x3, rfl, -⟩ := VRs3 hx) | (obtain ⟨x1, x2, x3, x4, rfl, -⟩ := VRs4 hx) | (obtain ⟨x1, x2, x3, x4, x5, rfl, -⟩ := VRs5 hx)); exact BindsTo.of_eq (by kernel_rfl))); intro L
  refine x_cons (x_ret ?_)
  walk_at "W_Sender.flight"
  refine c_distance (by omega) ?_
  show P _ _
  rw [fm_sub hr h1 h2]
  exact h
local macro_rules | `(tactic| walk_at "N_Sender.ever_sent") => `(tactic| first | ((with_reducible first | refine' g_name (Str.ofString "self") 0 ?_ ?_ ?_); walk_at "NM"))
local macro_rules | `(tactic| walk_at "W_Sender.ever_sent") => `(tactic| repeat (first | walk_at "N_Sender.ever_sent" | walk_at "W1"))
theorem c_ever_sent (hr : 0 < ring) (h1 : u ≤ m) (h2 : m - u < ring) (h : P (.int (m - u)) (AS x d p pd q qd iss ring mss u n m syn asked sent size most told tack room held φ)) : Cl Sy D (k + 2) (.ref 319) [.ref x] (AS x d p pd q qd iss ring mss u n m syn asked sent size most told tack room held φ) P := by
  refine' cl_def [Str.ofString "self"] ?ho ?hc ?hb ?hok ?h
  (case ho => (show List.lookup _ (hd.heap_1 _) = _; k_is)); (case hc => (show codeIn (hd.heap_1 _) _ _ = true; k_is)); (case hok => kernel_rfl); (case hb => (intro s xs _ hx; (first | (obtain ⟨x1, rfl, -⟩ := VRs1 hx) | (obtain ⟨x1, x2, rfl, -⟩ := VRs2 hx) | (obtain ⟨x1, x2, x3, rfl, -⟩ := VRs3 hx) | (obtain ⟨x1, x2, x3, x4, rfl, -⟩ := VRs4 hx) | (obtain ⟨x1, x2, x3, x4, x5, rfl, -⟩ := VRs5 hx)); exact BindsTo.of_eq (by kernel_rfl))); intro L
  refine x_cons (x_ret ?_)
  walk_at "W_Sender.ever_sent"
  refine c_distance (by omega) ?_
  show P _ _
  rw [fm_sub hr h1 h2]
  exact h
local macro_rules | `(tactic| walk_at "N_Sender.usable") => `(tactic| first | ((with_reducible first | refine' g_name (Str.ofString "self") 0 ?_ ?_ ?_ | refine' g_name (Str.ofString "congestion_window") 1 ?_ ?_ ?_); walk_at "NM"))
local macro_rules | `(tactic| walk_at "W_Sender.usable") => `(tactic| repeat (first | walk_at "N_Sender.usable" | walk_at "W1"))
theorem c_usable {cw : Int} (hr : 0 < ring) (h1 : u ≤ n) (h2 : n - u < ring) (h : P (.int (max 0 (min size cw - (n - u)))) (AS x d p pd q qd iss ring mss u n m syn asked sent size most told tack room held φ)) : Cl Sy D (k + 3) (.ref 241) [.ref x, .int cw] (AS x d p pd q qd iss ring mss u n m syn asked sent size most told tack room held φ) P := by
  refine' cl_def [Str.ofString "self", Str.ofString "congestion_window"] ?ho ?hc ?hb ?hok ?h
  (case ho => (show List.lookup _ (hd.heap_1 _) = _; k_is)); (case hc => (show codeIn (hd.heap_1 _) _ _ = true; k_is)); (case hok => kernel_rfl); (case hb => (intro s xs _ hx; (first | (obtain ⟨x1, rfl, -⟩ := VRs1 hx) | (obtain ⟨x1, x2, rfl, -⟩ := VRs2 hx) | (obtain ⟨x1, x2, x3, rfl, -⟩ := VRs3 hx) | (obtain ⟨x1, x2, x3, x4, rfl, -⟩ := VRs4 hx) | (obtain ⟨x1, x2, x3, x4, x5, rfl, -⟩ := VRs5 hx)); exact BindsTo.of_eq (by kernel_rfl))); intro L
  refine x_cons (x_ret ?_)
  walk_at "W_Sender.usable"
  refine c_window ?_
  walk_at "W_Sender.usable"
  refine c_flight hr h1 h2 ?_
  walk_at "W_Sender.usable"
  exact h
local macro_rules | `(tactic| walk_at "N_Sender.data_sent") => `(tactic| first | ((with_reducible first | refine' g_name (Str.ofString "self") 0 ?_ ?_ ?_); walk_at "NM"))
local macro_rules | `(tactic| walk_at "W_Sender.data_sent") => `(tactic| repeat (first | walk_at "N_Sender.data_sent" | walk_at "W1"))
theorem c_data_sent (hr : 0 < ring) (h1 : u ≤ n) (h2 : n - u < ring) (hb : held.length ≤ 1000000) (h : P (.int (min (held.length : Int) (max 0 (n - u - b2i syn)))) (AS x d p pd q qd iss ring mss u n m syn asked sent size most told tack room held φ)) : Cl Sy D (k + 3) (.ref 248) [.ref x] (AS x d p pd q qd iss ring mss u n m syn asked sent size most told tack room held φ) P := by
  refine' cl_def [Str.ofString "self"] ?ho ?hc ?hb ?hok ?h
  (case ho => (show List.lookup _ (hd.heap_1 _) = _; k_is)); (case hc => (show codeIn (hd.heap_1 _) _ _ = true; k_is)); (case hok => kernel_rfl); (case hb => (intro s xs _ hx; (first | (obtain ⟨x1, rfl, -⟩ := VRs1 hx) | (obtain ⟨x1, x2, rfl, -⟩ := VRs2 hx) | (obtain ⟨x1, x2, x3, rfl, -⟩ := VRs3 hx) | (obtain ⟨x1, x2, x3, x4, rfl, -⟩ := VRs4 hx) | (obtain ⟨x1, x2, x3, x4, x5, rfl, -⟩ := VRs5 hx)); exact BindsTo.of_eq (by kernel_rfl))); intro L
  refine x_cons (x_ret ?_)
  walk_at "W_Sender.data_sent"
  refine c_qsize hb ?_
  walk_at "W_Sender.data_sent"
  refine c_flight hr h1 h2 ?_
  walk_at "W_Sender.data_sent"
  exact h
local macro_rules | `(tactic| walk_at "N_Sender.unsent") => `(tactic| first | ((with_reducible first | refine' g_name (Str.ofString "self") 0 ?_ ?_ ?_); walk_at "NM"))
local macro_rules | `(tactic| walk_at "W_Sender.unsent") => `(tactic| repeat (first | walk_at "N_Sender.unsent" | walk_at "W1"))
theorem c_unsent (hr : 0 < ring) (h1 : u ≤ n) (h2 : n - u < ring) (hb : held.length ≤ 1000000) (h : P (.int (held.length - min (held.length : Int) (max 0 (n - u - b2i syn)))) (AS x d p pd q qd iss ring mss u n m syn asked sent size most told tack room held φ)) : Cl Sy D (k + 4) (.ref 255) [.ref x] (AS x d p pd q qd iss ring mss u n m syn asked sent size most told tack room held φ) P := by
  refine' cl_def [Str.ofString "self"] ?ho ?hc ?hb ?hok ?h
  (case ho => (show List.lookup _ (hd.heap_1 _) = _; k_is)); (case hc => (show codeIn (hd.heap_1 _) _ _ = true; k_is)); (case hok => kernel_rfl); (case hb => (intro s xs _ hx; (first | (obtain ⟨x1, rfl, -⟩ := VRs1 hx) | (obtain ⟨x1, x2, rfl, -⟩ := VRs2 hx) | (obtain ⟨x1, x2, x3, rfl, -⟩ := VRs3 hx) | (obtain ⟨x1, x2, x3, x4, rfl, -⟩ := VRs4 hx) | (obtain ⟨x1, x2, x3, x4, x5, rfl, -⟩ := VRs5 hx)); exact BindsTo.of_eq (by kernel_rfl))); intro L
  refine x_cons (x_ret ?_)
  walk_at "W_Sender.unsent"
  refine c_qsize hb ?_
  walk_at "W_Sender.unsent"
  refine c_data_sent hr h1 h2 hb ?_
  walk_at "W_Sender.unsent"
  exact h
local macro_rules | `(tactic| walk_at "N_Sender.is_fin_acked") => `(tactic| first | ((with_reducible first | refine' g_name (Str.ofString "self") 0 ?_ ?_ ?_); walk_at "NM"))
local macro_rules | `(tactic| walk_at "W_Sender.is_fin_acked") => `(tactic| repeat (first | walk_at "N_Sender.is_fin_acked" | walk_at "W1"))
theorem c_fin_acked (hr : 0 < ring) (h1 : u ≤ m) (h2 : m - u < ring) (hb : held.length ≤ 1000000) (h : P (.bool (sent && !syn && decide ((held.length : Int) = 0) && decide (u = m))) (AS x d p pd q qd iss ring mss u n m syn asked sent size most told tack room held φ)) : Cl Sy D (k + 2) (.ref 269) [.ref x] (AS x d p pd q qd iss ring mss u n m syn asked sent size most told tack room held φ) P := by
  refine' cl_def [Str.ofString "self"] ?ho ?hc ?hb ?hok ?h
  (case ho => (show List.lookup _ (hd.heap_1 _) = _; k_is)); (case hc => (show codeIn (hd.heap_1 _) _ _ = true; k_is)); (case hok => kernel_rfl); (case hb => (intro s xs _ hx; (first | (obtain ⟨x1, rfl, -⟩ := VRs1 hx) | (obtain ⟨x1, x2, rfl, -⟩ := VRs2 hx) | (obtain ⟨x1, x2, x3, rfl, -⟩ := VRs3 hx) | (obtain ⟨x1, x2, x3, x4, rfl, -⟩ := VRs4 hx) | (obtain ⟨x1, x2, x3, x4, x5, rfl, -⟩ := VRs5 hx)); exact BindsTo.of_eq (by kernel_rfl))); intro L
  refine x_cons (x_ret ?_)
  refine e_and ?_
  walk_at "W_Sender.is_fin_acked"
  refine ⟨fun a1 => ?_, fun a1 => ?_⟩
  rotate_left
  · show P (.bool false) _
    simpa [a1] using h
  refine e_and ?_
  walk_at "W_Sender.is_fin_acked"
  refine ⟨fun a2 => ?_, fun a2 => ?_⟩
  rotate_left
  · show P (.bool false) _
    simp only [Bool.not_eq_false'] at a2
    simpa [a1, a2] using h
  refine e_and ?_
  walk_at "W_Sender.is_fin_acked"
  refine c_qsize hb ?_
  walk_at "W_Sender.is_fin_acked"
  refine ⟨fun a3 => ?_, fun a3 => ?_⟩
  rotate_left
  · show P (.bool false) _
    simp only [cmpZ] at a3
    rw [a3, Bool.and_false, Bool.false_and] at h
    exact h
  refine pv_one ?_
  walk_at "W_Sender.is_fin_acked"
  show P (.bool _) _
  simp only [cmpZ] at a3 ⊢
  rw [fm_inj hr h1 h2]
  simp only [Bool.not_eq_true'] at a2
  subst a1 a2
  rw [a3] at h
  exact h
local macro_rules | `(tactic| walk_at "N_Sender.is_fin_due") => `(tactic| first | ((with_reducible first | refine' g_name (Str.ofString "self") 0 ?_ ?_ ?_ | refine' g_name (Str.ofString "room") 1 ?_ ?_ ?_); walk_at "NM"))
local macro_rules | `(tactic| walk_at "W_Sender.is_fin_due") => `(tactic| repeat (first | walk_at "N_Sender.is_fin_due" | walk_at "W1"))
theorem c_fin_due (hr : 0 < ring) (h1 : u ≤ n) (h2 : n ≤ m) (h3 : m - u < ring) (hb : held.length ≤ 1000000)
    (h : P (.bool (asked && !(sent && !syn && decide ((held.length : Int) = 0) && decide (u = m)) && decide (n - u ≤ held.length + b2i syn))) (AS x d p pd q qd iss ring mss u n m syn asked sent size most told tack room held φ)) : Cl Sy D (k + 3) (.ref 262) [.ref x] (AS x d p pd q qd iss ring mss u n m syn asked sent size most told tack room held φ) P := by
  refine' cl_def [Str.ofString "self"] ?ho ?hc ?hb ?hok ?h
  (case ho => (show List.lookup _ (hd.heap_1 _) = _; k_is)); (case hc => (show codeIn (hd.heap_1 _) _ _ = true; k_is)); (case hok => kernel_rfl); (case hb => (intro s xs _ hx; (first | (obtain ⟨x1, rfl, -⟩ := VRs1 hx) | (obtain ⟨x1, x2, rfl, -⟩ := VRs2 hx) | (obtain ⟨x1, x2, x3, rfl, -⟩ := VRs3 hx) | (obtain ⟨x1, x2, x3, x4, rfl, -⟩ := VRs4 hx) | (obtain ⟨x1, x2, x3, x4, x5, rfl, -⟩ := VRs5 hx)); exact BindsTo.of_eq (by kernel_rfl))); intro L
  refine x_cons (x_assignF (Str.ofString "room") 1 ?_)
  walk_at "W_Sender.is_fin_due"
  refine c_qsize hb ?_
  walk_at "W_Sender.is_fin_due"
  refine x_cons (x_ret ?_)
  refine e_and ?_
  walk_at "W_Sender.is_fin_due"
  refine ⟨fun a1 => ?_, fun a1 => ?_⟩
  rotate_left
  · show P (.bool false) _
    simpa [a1] using h
  refine e_and ?_
  walk_at "W_Sender.is_fin_due"
  refine c_fin_acked hr (by omega) h3 hb ?_
  walk_at "W_Sender.is_fin_due"
  refine ⟨fun a2 => ?_, fun a2 => ?_⟩
  rotate_left
  · show P (.bool false) _
    subst a1
    rw [a2] at h
    exact h
  refine pv_one ?_
  walk_at "W_Sender.is_fin_due"
  refine c_flight hr h1 (by omega) ?_
  walk_at "W_Sender.is_fin_due"
  show P (.bool _) _
  subst a1
  rw [a2] at h
  exact h
local macro_rules | `(tactic| walk_at "N_Sender.go_on") => `(tactic| first | ((with_reducible first | refine' g_name (Str.ofString "self") 0 ?_ ?_ ?_ | refine' g_name (Str.ofString "many") 1 ?_ ?_ ?_); walk_at "NM"))
local macro_rules | `(tactic| walk_at "W_Sender.go_on") => `(tactic| repeat (first | walk_at "N_Sender.go_on" | walk_at "W1"))
theorem c_go_on {a : Int} (hr : 0 < ring) (h1 : 2 * (n + a - m) < ring) (h2 : 2 * (m - (n + a)) ≤ ring) (h : P .none (AS x d p pd q qd iss ring mss u (n + a) (max m (n + a)) syn asked sent size most told tack room held φ)) : Cl Sy D (k + 4) (.ref 283) [.ref x, .int a] (AS x d p pd q qd iss ring mss u n m syn asked sent size most told tack room held φ) P := by
  refine' cl_def [Str.ofString "self", Str.ofString "many"] ?ho ?hc ?hb ?hok ?h
  (case ho => (show List.lookup _ (hd.heap_1 _) = _; k_is)); (case hc => (show codeIn (hd.heap_1 _) _ _ = true; k_is)); (case hok => kernel_rfl); (case hb => (intro s xs _ hx; (first | (obtain ⟨x1, rfl, -⟩ := VRs1 hx) | (obtain ⟨x1, x2, rfl, -⟩ := VRs2 hx) | (obtain ⟨x1, x2, x3, rfl, -⟩ := VRs3 hx) | (obtain ⟨x1, x2, x3, x4, rfl, -⟩ := VRs4 hx) | (obtain ⟨x1, x2, x3, x4, x5, rfl, -⟩ := VRs5 hx)); exact BindsTo.of_eq (by kernel_rfl))); intro L
  refine x_cons (g_setattr rfl ?_)
  walk_at "W_Sender.go_on"
  refine c_plus (by omega) ?_
  walk_at "W_Sender.go_on"
  refine ⟨_, _, _, _, _, _, rfl, (by walk_at "MEM"), (by walk_at "SETA"), by decide, atK (by walk_at "KA") rfl (.tail .head), ?_⟩
  refine x_cons (g_setattr rfl ?_)
  walk_at "W_Sender.go_on"
  refine c_latest (by omega) ?_
  rw [fm_add hr, fm_latest hr h1 h2]
  walk_at "W_Sender.go_on"
  refine ⟨_, _, _, _, _, _, rfl, (by walk_at "MEM"), (by walk_at "SETA"), by decide, atK (by walk_at "KA") rfl (.tail .head), ?_⟩
  exact x_nil h
end
section
theorem pt_not {S : Sx} {D : Dx} {k : Nat} {env : Env} {l : List (Option V)} {σ : Store} {e : Expr} {pos : Pos} {whole : Sem Value} {b : Bool} (h : PT S D k env l σ (isTrue e env (eval e env)) b) : PT S D k env l σ (isTrue (.UnaryOp .Not e pos) env whole) (!b) :=
  t_not (h.mono fun _ _ _ ⟨a, b, c⟩ => ⟨by rw [a], b, c⟩)
variable {D : Dx} {k : Nat} {σ φ : Store} {P : V → Store → Prop} {x d p pd q qd : Addr} {iss ring mss u n m size most tack room : Int} {told : V} {syn asked sent : Bool} {held : List UInt8}
local macro_rules | `(tactic| walk_at "N_Sender.may_go") => `(tactic| first | ((with_reducible first | refine' g_name (Str.ofString "self") 0 ?_ ?_ ?_ | refine' g_name (Str.ofString "many") 1 ?_ ?_ ?_ | refine' g_name (Str.ofString "is_nagle") 2 ?_ ?_ ?_); walk_at "NM"))
local macro_rules | `(tactic| walk_at "W_Sender.may_go") => `(tactic| repeat (first | walk_at "N_Sender.may_go" | walk_at "W1"))
theorem c_may_go {many U : Int} {nagle : Bool} (hr : 0 < ring) (h1 : u ≤ n) (h2 : n - u < ring) (hb : held.length ≤ 1000000) (hU : U = held.length - min (held.length : Int) (max 0 (n - u - b2i syn)))
    (h : P (.bool (decide (mss ≤ many) || (!(nagle && (decide (0 < n - u) && (!(asked && (decide (many = U) && true)) && true))) && (decide (many = U) || decide (most ≤ 2 * many))))) (AS x d p pd q qd iss ring mss u n m syn asked sent size most told tack room held φ)) :
    Cl Sy D (k + 5) (.ref 297) [.ref x, .int many, .bool nagle] (AS x d p pd q qd iss ring mss u n m syn asked sent size most told tack room held φ) P := by
  refine' cl_def [Str.ofString "self", Str.ofString "many", Str.ofString "is_nagle"] ?ho ?hc ?hb ?hok ?h
  (case ho => (show List.lookup _ (hd.heap_1 _) = _; k_is)); (case hc => (show codeIn (hd.heap_1 _) _ _ = true; k_is)); (case hok => kernel_rfl); (case hb => (intro s xs _ hx; (first | (obtain ⟨x1, rfl, -⟩ := VRs1 hx) | (obtain ⟨x1, x2, rfl, -⟩ := VRs2 hx) | (obtain ⟨x1, x2, x3, rfl, -⟩ := VRs3 hx) | (obtain ⟨x1, x2, x3, x4, rfl, -⟩ := VRs4 hx) | (obtain ⟨x1, x2, x3, x4, x5, rfl, -⟩ := VRs5 hx)); exact BindsTo.of_eq (by kernel_rfl))); intro L
  refine x_cons (x_if ?_)
  walk_at "W_Sender.may_go"
  refine ⟨fun c1 => ?_, fun c1 => ?_⟩ <;> simp only [cmpZ] at c1 <;> rw [c1] at h
  · refine x_cons (x_ret ?_)
    walk_at "W_Sender.may_go"
    exact h
  refine x_nil ?_
  refine x_cons (x_if ?_)
  refine pt (v := nagle && (decide (0 < n - u) && (!(asked && (decide (many = U) && true)) && true))) (pt_and ?_ fun _ => pt_and ?_ fun _ => pt_and (pt_not (pt_and ?_ fun _ => pt_and ?_ fun _ => pt_and0)) fun _ => pt_and0) ?_
  · walk_at "W_Sender.may_go"
  · walk_at "W_Sender.may_go"
    refine c_flight hr h1 h2 ?_
    walk_at "W_Sender.may_go"
  · walk_at "W_Sender.may_go"
  · walk_at "W_Sender.may_go"
    refine c_unsent hr h1 h2 hb ?_
    rw [← hU]
    walk_at "W_Sender.may_go"
  refine ⟨fun c2 => ?_, fun c2 => ?_⟩ <;> rw [c2] at h
  · refine x_cons (x_ret ?_)
    walk_at "W_Sender.may_go"
    exact h
  refine x_nil ?_
  refine x_cons (x_ret ?_)
  refine pv (v := .bool (decide (many = U) || decide (most ≤ 2 * many))) (pv_or ?_ fun _ => pv_one ?_) ?_
  · walk_at "W_Sender.may_go"
    refine c_unsent hr h1 h2 hb ?_
    rw [← hU]
    walk_at "W_Sender.may_go"
  · walk_at "W_Sender.may_go"
  exact h
local macro_rules | `(tactic| walk_at "N_Sender.is_idle_with_more") => `(tactic| first | ((with_reducible first | refine' g_name (Str.ofString "self") 0 ?_ ?_ ?_); walk_at "NM"))
local macro_rules | `(tactic| walk_at "W_Sender.is_idle_with_more") => `(tactic| repeat (first | walk_at "N_Sender.is_idle_with_more" | walk_at "W1"))
theorem c_idle {U : Int} (hr : 0 < ring) (h1 : u ≤ n) (hnm : n ≤ m) (h3 : m - u < ring) (hb : held.length ≤ 1000000) (hU : U = held.length - min (held.length : Int) (max 0 (n - u - b2i syn)))
    (h : P (.bool (!(syn || (decide (0 < n - u) || false)) && (decide (0 < U) || (asked && !(sent && !syn && decide ((held.length : Int) = 0) && decide (u = m)) && decide (n - u ≤ held.length + b2i syn))))) (AS x d p pd q qd iss ring mss u n m syn asked sent size most told tack room held φ)) :
    Cl Sy D (k + 5) (.ref 347) [.ref x] (AS x d p pd q qd iss ring mss u n m syn asked sent size most told tack room held φ) P := by
  refine' cl_def [Str.ofString "self"] ?ho ?hc ?hb ?hok ?h
  (case ho => (show List.lookup _ (hd.heap_1 _) = _; k_is)); (case hc => (show codeIn (hd.heap_1 _) _ _ = true; k_is)); (case hok => kernel_rfl); (case hb => (intro s xs _ hx; (first | (obtain ⟨x1, rfl, -⟩ := VRs1 hx) | (obtain ⟨x1, x2, rfl, -⟩ := VRs2 hx) | (obtain ⟨x1, x2, x3, rfl, -⟩ := VRs3 hx) | (obtain ⟨x1, x2, x3, x4, rfl, -⟩ := VRs4 hx) | (obtain ⟨x1, x2, x3, x4, x5, rfl, -⟩ := VRs5 hx)); exact BindsTo.of_eq (by kernel_rfl))); intro L
  refine x_cons (x_if ?_)
  refine pt (v := syn || (decide (0 < n - u) || false)) (pt_or ?_ fun _ => pt_or ?_ fun _ => pt_or0) ?_
  · walk_at "W_Sender.is_idle_with_more"
  · walk_at "W_Sender.is_idle_with_more"
    refine c_flight hr h1 (by omega) ?_
    walk_at "W_Sender.is_idle_with_more"
  refine ⟨fun c2 => ?_, fun c2 => ?_⟩ <;> rw [c2] at h
  · refine x_cons (x_ret ?_)
    walk_at "W_Sender.is_idle_with_more"
    exact h
  refine x_nil ?_
  refine x_cons (x_ret ?_)
  refine pv (pv_or (a := decide (0 < U)) ?_ fun _ => pv_one ?_) h
  · walk_at "W_Sender.is_idle_with_more"
    refine c_unsent hr h1 (by omega) hb ?_
    rw [← hU]
    walk_at "W_Sender.is_idle_with_more"
  · walk_at "W_Sender.is_idle_with_more"
    refine c_fin_due hr h1 hnm h3 hb ?_
    walk_at "W_Sender.is_idle_with_more"
local macro_rules | `(tactic| walk_at "N_Sender.needs_probe") => `(tactic| first | ((with_reducible first | refine' g_name (Str.ofString "self") 0 ?_ ?_ ?_ | refine' g_name (Str.ofString "many") 1 ?_ ?_ ?_); walk_at "NM"))
local macro_rules | `(tactic| walk_at "W_Sender.needs_probe") => `(tactic| repeat (first | walk_at "N_Sender.needs_probe" | walk_at "W1"))
theorem c_needs_probe {U : Int} {I : Bool} (hr : 0 < ring) (h1 : u ≤ n) (hnm : n ≤ m) (h3 : m - u < ring) (hb : held.length ≤ 1000000) (hU : U = held.length - min (held.length : Int) (max 0 (n - u - b2i syn)))
    (hI : I = (!(syn || (decide (0 < n - u) || false)) && (decide (0 < U) || (asked && !(sent && !syn && decide ((held.length : Int) = 0) && decide (u = m)) && decide (n - u ≤ held.length + b2i syn)))))
    (h : P (.bool (I && (decide (size = 0) || (decide (0 < min mss (min U size)) &&
      !(decide (mss ≤ min mss (min U size)) || (!(true && (decide (0 < n - u) && (!(asked && (decide (min mss (min U size) = U) && true)) && true))) && (decide (min mss (min U size) = U) || decide (most ≤ 2 * min mss (min U size))))))))) (AS x d p pd q qd iss ring mss u n m syn asked sent size most told tack room held φ)) :
    Cl Sy D (k + 6) (.ref 354) [.ref x] (AS x d p pd q qd iss ring mss u n m syn asked sent size most told tack room held φ) P := by
  refine' cl_def [Str.ofString "self"] ?ho ?hc ?hb ?hok ?h
  (case ho => (show List.lookup _ (hd.heap_1 _) = _; k_is)); (case hc => (show codeIn (hd.heap_1 _) _ _ = true; k_is)); (case hok => kernel_rfl); (case hb => (intro s xs _ hx; (first | (obtain ⟨x1, rfl, -⟩ := VRs1 hx) | (obtain ⟨x1, x2, rfl, -⟩ := VRs2 hx) | (obtain ⟨x1, x2, x3, rfl, -⟩ := VRs3 hx) | (obtain ⟨x1, x2, x3, x4, rfl, -⟩ := VRs4 hx) | (obtain ⟨x1, x2, x3, x4, x5, rfl, -⟩ := VRs5 hx)); exact BindsTo.of_eq (by kernel_rfl))); intro L
  refine x_cons (x_if ?_)
  refine pt (pt_not (b := I) ?_) ?_
  · walk_at "W_Sender.needs_probe"
    refine c_idle hr h1 hnm h3 hb hU ?_
    rw [← hI]
    walk_at "W_Sender.needs_probe"
  refine ⟨fun c2 => ?_, fun c2 => ?_⟩ <;> (try simp only [Bool.not_eq_true', Bool.not_eq_false'] at c2) <;> rw [c2] at h
  · refine x_cons (x_ret ?_)
    walk_at "W_Sender.needs_probe"
    exact h
  refine x_nil ?_
  refine x_cons (x_if ?_)
  walk_at "W_Sender.needs_probe"
  refine c_window ?_
  walk_at "W_Sender.needs_probe"
  refine ⟨fun c3 => ?_, fun c3 => ?_⟩ <;> simp only [cmpZ] at c3 <;> rw [c3] at h
  · refine x_cons (x_ret ?_)
    walk_at "W_Sender.needs_probe"
    exact h
  refine x_nil ?_
  refine x_cons (x_assignF (Str.ofString "many") 1 ?_)
  walk_at "W_Sender.needs_probe"
  refine c_unsent hr h1 (by omega) hb ?_
  rw [← hU]
  walk_at "W_Sender.needs_probe"
  refine c_window ?_
  walk_at "W_Sender.needs_probe"
  refine x_cons (x_ret ?_)
  refine pv (pv_and (a := decide (0 < min mss (min U size))) ?_ fun _ => pv_one ?_) h
  · walk_at "W_Sender.needs_probe"
  · walk_at "W_Sender.needs_probe"
    refine c_may_go hr h1 (by omega) hb hU ?_
    walk_at "W_Sender.needs_probe"
end
section
variable {D : Dx} {k : Nat} {σ φ : Store} {P : V → Store → Prop} {x d p pd q qd : Addr} {iss ring mss u n m size most tack room : Int} {told : V} {syn asked sent : Bool} {held : List UInt8}
theorem b2i_01 (b : Bool) : 0 ≤ b2i b ∧ b2i b ≤ 1 := by cases b <;> decide
local macro_rules | `(tactic| walk_at "N_Sender.acked") => `(tactic| first | ((with_reducible first | refine' g_name (Str.ofString "self") 0 ?_ ?_ ?_ | refine' g_name (Str.ofString "ack") 1 ?_ ?_ ?_ | refine' g_name (Str.ofString "many") 2 ?_ ?_ ?_ | refine' g_name (Str.ofString "ahead") 3 ?_ ?_ ?_ | refine' g_name (Str.ofString "is_syn") 4 ?_ ?_ ?_ | refine' g_name (Str.ofString "octets") 5 ?_ ?_ ?_); walk_at "NM"))
local macro_rules | `(tactic| walk_at "W_Sender.acked") => `(tactic| repeat (first | walk_at "N_Sender.acked" | walk_at "W1"))
theorem c_acked_no {a g : Int} (hr : 0 < ring) (h2 : u ≤ m) (h3 : m - u < ring) (hg : g = ((iss + a).fmod ring - (iss + u).fmod ring).fmod ring) (ha : g = 0 ∨ m - u < g)
    (h : ∀ t, P (.ref t) (AS x d p pd q qd iss ring mss u n m syn asked sent size most told tack room held (φ ++ [(t, .tup [.int 0, .bool false, .bool false])]))) :
    Cl Sy D (k + 5) (.ref 368) [.ref x, .int ((iss + a).fmod ring)] (AS x d p pd q qd iss ring mss u n m syn asked sent size most told tack room held φ) P := by
  refine' cl_def [Str.ofString "self", Str.ofString "ack"] ?ho ?hc ?hb ?hok ?h
  (case ho => (show List.lookup _ (hd.heap_1 _) = _; k_is)); (case hc => (show codeIn (hd.heap_1 _) _ _ = true; k_is)); (case hok => kernel_rfl); (case hb => (intro s xs _ hx; (first | (obtain ⟨x1, rfl, -⟩ := VRs1 hx) | (obtain ⟨x1, x2, rfl, -⟩ := VRs2 hx) | (obtain ⟨x1, x2, x3, rfl, -⟩ := VRs3 hx) | (obtain ⟨x1, x2, x3, x4, rfl, -⟩ := VRs4 hx) | (obtain ⟨x1, x2, x3, x4, x5, rfl, -⟩ := VRs5 hx)); exact BindsTo.of_eq (by kernel_rfl))); intro L
  refine x_cons (x_assignF (Str.ofString "many") 2 ?_)
  walk_at "W_Sender.acked"
  refine c_distance (by omega) ?_
  rw [← hg]
  refine x_cons (x_if ?_)
  refine pt (v := decide (g = 0) || (decide (m - u < g) || false)) (pt_or ?_ fun _ => pt_or ?_ fun _ => pt_or0) ?_
  · walk_at "W_Sender.acked"
  · walk_at "W_Sender.acked"
    refine c_ever_sent hr h2 h3 ?_
    walk_at "W_Sender.acked"
  refine ⟨fun _ => ?_, fun hc => ?_⟩
  rotate_left
  · simp only [Bool.or_false, Bool.or_eq_false_iff, decide_eq_false_iff_not] at hc
    omega
  refine x_cons (x_ret ?_)
  refine e_tuple ?_
  walk_at "W_Sender.acked"
  exact fun t => h t
theorem c_acked_yes {a : Int} (hr : 0 < ring) (h1 : u ≤ n) (h2 : n ≤ m) (h3 : m - u < ring) (ha : u < a) (ham : a ≤ m) (hb : held.length ≤ 1000000) {o : Int} (ho : o = min (a - u - b2i syn) held.length)
    (h : ∀ t, P (.ref t) (AS x d p pd q qd iss ring mss a (max n a) m false asked sent size most told tack room (bcut held (.int o) .none) (φ ++ [(t, .tup [.int o, .bool syn, .bool (decide (o < a - u - b2i syn))])]))) :
    Cl Sy D (k + 5) (.ref 368) [.ref x, .int ((iss + a).fmod ring)] (AS x d p pd q qd iss ring mss u n m syn asked sent size most told tack room held φ) P := by
  have hs := b2i_01 syn
  refine' cl_def [Str.ofString "self", Str.ofString "ack"] ?ho ?hc ?hb ?hok ?h
  (case ho => (show List.lookup _ (hd.heap_1 _) = _; k_is)); (case hc => (show codeIn (hd.heap_1 _) _ _ = true; k_is)); (case hok => kernel_rfl); (case hb => (intro s xs _ hx; (first | (obtain ⟨x1, rfl, -⟩ := VRs1 hx) | (obtain ⟨x1, x2, rfl, -⟩ := VRs2 hx) | (obtain ⟨x1, x2, x3, rfl, -⟩ := VRs3 hx) | (obtain ⟨x1, x2, x3, x4, rfl, -⟩ := VRs4 hx) | (obtain ⟨x1, x2, x3, x4, x5, rfl, -⟩ := VRs5 hx)); exact BindsTo.of_eq (by kernel_rfl))); intro L
  refine x_cons (x_assignF (Str.ofString "many") 2 ?_)
  walk_at "W_Sender.acked"
  refine c_distance (by omega) ?_
  rw [fm_sub hr (by omega) (by omega)]
  refine x_cons (x_if ?_)
  refine pt (v := decide (a - u = 0) || (decide (m - u < a - u) || false)) (pt_or ?_ fun _ => pt_or ?_ fun _ => pt_or0) ?_
  · walk_at "W_Sender.acked"
  · walk_at "W_Sender.acked"
    refine c_ever_sent hr (by omega) h3 ?_
    walk_at "W_Sender.acked"
  refine ⟨fun hc => ?_, fun _ => ?_⟩
  · simp only [Bool.or_false, Bool.or_eq_true, decide_eq_true_eq] at hc
    omega
  refine x_nil ?_
  refine x_cons (x_assignF (Str.ofString "ahead") 3 ?_)
  walk_at "W_Sender.acked"
  refine c_flight hr h1 (by omega) ?_
  refine x_cons (x_assignF (Str.ofString "is_syn") 4 ?_)
  walk_at "W_Sender.acked"
  refine x_cons (g_setattr rfl ?_)
  walk_at "W_Sender.acked"
  refine ⟨_, _, _, _, _, _, rfl, (by walk_at "MEM"), (by walk_at "SETA"), by decide, atK (by walk_at "KA") rfl (.tail .head), ?_⟩
  refine x_cons (x_assignF (Str.ofString "octets") 5 ?_)
  walk_at "W_Sender.acked"
  refine c_qsize hb ?_
  walk_at "W_Sender.acked"
  rw [← ho]
  refine x_cons (g_expr rfl rfl ?_)
  walk_at "W_Sender.acked"
  refine c_drop (by omega) (by omega) hb ?_
  refine x_cons (g_setattr rfl ?_)
  walk_at "W_Sender.acked"
  refine ⟨_, _, _, _, _, _, rfl, (by walk_at "MEM"), (by walk_at "SETA"), by decide, atK (by walk_at "KA") rfl (.tail .head), ?_⟩
  refine x_cons (x_if ?_)
  walk_at "W_Sender.acked"
  refine ⟨fun c1 => ?_, fun c1 => ?_⟩ <;> simp only [cmpZ, decide_eq_true_eq, decide_eq_false_iff_not] at c1
  · rw [Int.max_eq_right (by omega)] at h
    refine x_cons (g_setattr rfl ?_)
    walk_at "W_Sender.acked"
    refine ⟨_, _, _, _, _, _, rfl, (by walk_at "MEM"), (by walk_at "SETA"), by decide, atK (by walk_at "KA") rfl (.tail .head), ?_⟩
    refine x_nil ?_
    refine x_cons (x_ret ?_)
    refine e_tuple ?_
    walk_at "W_Sender.acked"
    exact fun t => h t
  · rw [Int.max_eq_left (by omega)] at h
    refine x_nil ?_
    refine x_cons (x_ret ?_)
    refine e_tuple ?_
    walk_at "W_Sender.acked"
    exact fun t => h t
local macro_rules | `(tactic| walk_at "N_Sender.start") => `(tactic| first | ((with_reducible first | refine' g_name (Str.ofString "self") 0 ?_ ?_ ?_); walk_at "NM"))
local macro_rules | `(tactic| walk_at "W_Sender.start") => `(tactic| repeat (first | walk_at "N_Sender.start" | walk_at "W1"))
theorem c_start (hs : syn = true) (hr : 0 < ring) (hi : iss.fmod ring = iss) (h0 : 0 ≤ n) (h1 : n < ring) (hnm : n ≤ m) (hm : 2 * (m - n) ≤ ring) (hr2 : 2 < ring)
    (hz : n = 0 → P (.int iss) (AS x d p pd q qd iss ring mss u 1 (max m 1) syn asked sent size most told tack room held φ)) (hn : n ≠ 0 → P (.int iss) (AS x d p pd q qd iss ring mss u n m syn asked sent size most told tack room held φ)) : Cl Sy D (k + 5) (.ref 290) [.ref x] (AS x d p pd q qd iss ring mss u n m syn asked sent size most told tack room held φ) P := by
  refine' cl_def [Str.ofString "self"] ?ho ?hc ?hb ?hok ?h
  (case ho => (show List.lookup _ (hd.heap_1 _) = _; k_is)); (case hc => (show codeIn (hd.heap_1 _) _ _ = true; k_is)); (case hok => kernel_rfl); (case hb => (intro s xs _ hx; (first | (obtain ⟨x1, rfl, -⟩ := VRs1 hx) | (obtain ⟨x1, x2, rfl, -⟩ := VRs2 hx) | (obtain ⟨x1, x2, x3, rfl, -⟩ := VRs3 hx) | (obtain ⟨x1, x2, x3, x4, rfl, -⟩ := VRs4 hx) | (obtain ⟨x1, x2, x3, x4, x5, rfl, -⟩ := VRs5 hx)); exact BindsTo.of_eq (by kernel_rfl))); intro L
  refine x_cons (x_if ?_)
  walk_at "W_Sender.start"
  subst hs
  refine ⟨fun hc => (nomatch hc), fun _ => ?_⟩
  refine x_nil ?_
  have key : decide ((iss + n).fmod ring = iss) = decide (n = 0) := by
    have := fm_inj (i := iss) (u := 0) hr h0 (by omega)
    rw [Int.add_zero, hi] at this
    rw [show decide (n = 0) = decide (0 = n) by simp [eq_comm], ← this]
    simp [eq_comm]
  refine x_cons (x_if ?_)
  walk_at "W_Sender.start"
  refine ⟨fun c1 => ?_, fun c1 => ?_⟩ <;> simp only [cmpZ] at c1 <;> rw [key] at c1 <;> simp only [decide_eq_true_eq, decide_eq_false_iff_not] at c1
  · refine x_cons (g_expr rfl rfl ?_)
    walk_at "W_Sender.start"
    refine c_go_on hr (by omega) (by omega) ?_
    refine x_nil ?_
    refine x_cons (x_ret ?_)
    walk_at "W_Sender.start"
    subst c1
    exact hz rfl
  · refine x_nil ?_
    refine x_cons (x_ret ?_)
    walk_at "W_Sender.start"
    exact hn c1
local macro_rules | `(tactic| walk_at "N_Sender.piece_of") => `(tactic| first | ((with_reducible first | refine' g_name (Str.ofString "self") 0 ?_ ?_ ?_ | refine' g_name (Str.ofString "many") 1 ?_ ?_ ?_ | refine' g_name (Str.ofString "congestion_window") 2 ?_ ?_ ?_ | refine' g_name (Str.ofString "seq") 3 ?_ ?_ ?_ | refine' g_name (Str.ofString "octets") 4 ?_ ?_ ?_ | refine' g_name (Str.ofString "is_last") 5 ?_ ?_ ?_ | refine' g_name (Str.ofString "has_fin") 6 ?_ ?_ ?_); walk_at "NM"))
local macro_rules | `(tactic| walk_at "W_Sender.piece_of") => `(tactic| repeat (first | walk_at "N_Sender.piece_of" | walk_at "W1"))
theorem c_piece_of {many cw DS U : Int} {L F : Bool} (hr : 0 < ring) (h1 : u ≤ n) (h2 : n ≤ m) (h3 : 2 * (m - u) < ring) (hb : held.length ≤ 1000000) (hDS : DS = min (held.length : Int) (max 0 (n - u - b2i syn))) (hU : U = held.length - DS)
    (hm0 : 0 < many) (hm1 : many ≤ U) (hm2 : 2 * (many + 1) < ring) (hL : L = decide (many = U)) (hF : F = (L && (asked && decide (many < max 0 (min size cw - (n - u))))))
    (h : ∀ t, P (.ref t) (AS x d p pd q qd iss ring mss u (n + (many + b2i F)) (max m (n + (many + b2i F))) syn asked (sent || F) size most told tack room held (φ ++ [(t, .tup [.int ((iss + n).fmod ring), .byt (bcut held (.int DS) (.int (DS + many))), .bool L, .bool F])]))) :
    Cl Sy D (k + 5) (.ref 312) [.ref x, .int many, .int cw] (AS x d p pd q qd iss ring mss u n m syn asked sent size most told tack room held φ) P := by
  have hFb := b2i_01 F
  refine' cl_def [Str.ofString "self", Str.ofString "many", Str.ofString "congestion_window"] ?ho ?hc ?hb ?hok ?h
  (case ho => (show List.lookup _ (hd.heap_1 _) = _; k_is)); (case hc => (show codeIn (hd.heap_1 _) _ _ = true; k_is)); (case hok => kernel_rfl); (case hb => (intro s xs _ hx; (first | (obtain ⟨x1, rfl, -⟩ := VRs1 hx) | (obtain ⟨x1, x2, rfl, -⟩ := VRs2 hx) | (obtain ⟨x1, x2, x3, rfl, -⟩ := VRs3 hx) | (obtain ⟨x1, x2, x3, x4, rfl, -⟩ := VRs4 hx) | (obtain ⟨x1, x2, x3, x4, x5, rfl, -⟩ := VRs5 hx)); exact BindsTo.of_eq (by kernel_rfl))); intro L
  refine x_cons (x_assignF (Str.ofString "seq") 3 ?_)
  walk_at "W_Sender.piece_of"
  refine x_cons (x_assignF (Str.ofString "octets") 4 ?_)
  walk_at "W_Sender.piece_of"
  refine c_data_sent hr h1 (by omega) hb ?_
  rw [← hDS]
  walk_at "W_Sender.piece_of"
  refine c_part (by omega) (by omega) (by omega) hb ?_
  refine x_cons (x_assignF (Str.ofString "is_last") 5 ?_)
  walk_at "W_Sender.piece_of"
  refine c_unsent hr h1 (by omega) hb ?_
  rw [← hDS, ← hU]
  walk_at "W_Sender.piece_of"
  refine x_cons (x_assignF (Str.ofString "has_fin") 6 ?_)
  refine pv (v := .bool F) ?_ ?_
  · rw [hF, hL]
    refine pv_and ?_ fun _ => pv_and ?_ fun _ => pv_one ?_
    · walk_at "W_Sender.piece_of"
    · walk_at "W_Sender.piece_of"
    · walk_at "W_Sender.piece_of"
      refine c_usable hr h1 (by omega) ?_
      walk_at "W_Sender.piece_of"
  refine x_cons (g_setattr rfl ?_)
  refine pv (v := .bool (sent || F)) (pv_or ?_ fun _ => pv_one ?_) ?_
  · walk_at "W_Sender.piece_of"
  · walk_at "W_Sender.piece_of"
  walk_at "W_Sender.piece_of"
  refine ⟨_, _, _, _, _, _, rfl, (by walk_at "MEM"), (by walk_at "SETA"), by decide, atK (by walk_at "KA") rfl (.tail .head), ?_⟩
  refine x_cons (g_expr rfl rfl ?_)
  walk_at "W_Sender.piece_of"
  refine c_go_on hr (by omega) (by omega) ?_
  refine x_cons (x_ret ?_)
  refine e_tuple ?_
  walk_at "W_Sender.piece_of"
  have := h
  rw [hL] at this
  exact fun t => this t
end
section
structure Pc where
  at_ : Int
  many : Int
  last : Bool
  fin : Bool
structure Cfg where
  u : Int
  E : Int
  mss : Int
  size : Int
  most : Int
  cw : Int
  asked : Bool
  nagle : Bool
namespace Cfg
def usab (c : Cfg) (n : Int) : Int := max 0 (min c.size c.cw - (n - c.u))
def many (c : Cfg) (n : Int) : Int := min c.mss (min (c.E - n) (c.usab n))
def go (c : Cfg) (n : Int) : Bool := decide (c.mss ≤ c.many n) || (!(c.nagle && (decide (0 < n - c.u) && (!(c.asked && (decide (c.many n = c.E - n) && true)) && true))) && (decide (c.many n = c.E - n) || decide (c.most ≤ 2 * c.many n)))
def last (c : Cfg) (n : Int) : Bool := decide (c.many n = c.E - n)
def fin (c : Cfg) (n : Int) : Bool := c.last n && (c.asked && decide (c.many n < c.usab n))
def due (c : Cfg) (n : Int) (sent : Bool) (m : Int) : Bool := c.asked && !(sent && !false && decide (c.E - c.u = 0) && decide (c.u = m)) && decide (n - c.u ≤ c.E - c.u + b2i false)
end Cfg
inductive Run (c : Cfg) : Int → Bool → Int → List Pc → Int → Bool → Int → Prop
  | halt {n sent m} : n < c.E → (c.many n = 0 ∨ c.go n = false) → Run c n sent m [] n sent m
  | step {n sent m l n' sent' m'} : n < c.E → c.many n ≠ 0 → c.go n = true → Run c (n + (c.many n + b2i (c.fin n))) (sent || c.fin n) (max m (n + (c.many n + b2i (c.fin n)))) l n' sent' m' →
      Run c n sent m (⟨n, c.many n, c.last n, c.fin n⟩ :: l) n' sent' m'
  | fin {n sent m} : c.E ≤ n → c.due n sent m = true → 0 < c.usab n → Run c n sent m [⟨n, 0, false, true⟩] (n + 1) true (max m (n + 1))
  | done {n sent m} : c.E ≤ n → (c.due n sent m && (decide (0 < c.usab n) && true)) = false → Run c n sent m [] n sent m
def octs (held : List UInt8) (u : Int) (pc : Pc) : List UInt8 := bcut held (.int (pc.at_ - u)) (.int (pc.at_ - u + pc.many))
def tup1 (iss ring u : Int) (held : List UInt8) (t : Addr) (pc : Pc) : Addr × O := (t, .tup [.int ((iss + pc.at_).fmod ring), .byt (octs held u pc), .bool pc.last, .bool pc.fin])
def tups (iss ring u : Int) (held : List UInt8) (ts : List Addr) (pcs : List Pc) : Store := List.zipWith (tup1 iss ring u held) ts pcs
theorem tups_snoc {iss ring u : Int} {held : List UInt8} {ts : List Addr} {pcs : List Pc} {t : Addr} {pc : Pc} (h : ts.length = pcs.length) : tups iss ring u held (ts ++ [t]) (pcs ++ [pc]) = tups iss ring u held ts pcs ++ [tup1 iss ring u held t pc] := by
  unfold tups
  rw [List.zipWith_append h]
  rfl
theorem octs_nil {held : List UInt8} {u n : Int} {a b : Bool} : octs held u ⟨n, 0, a, b⟩ = [] := by
  unfold octs bcut
  simp [clipN]
theorem unsent_eq {u n E : Int} {len : Nat} (h : u ≤ n) (hE : E = u + len) : (len : Int) - min (len : Int) (max 0 (n - u - b2i false)) = max 0 (E - n) := by
  have : b2i false = 0 := rfl
  omega
theorem usab_pos {c : Cfg} {n : Int} : 0 ≤ c.usab n := by unfold Cfg.usab; omega
variable {D : Dx} {k : Nat} {σ φ : Store} {P : V → Store → Prop} {x d p pd q qd : Addr} {iss ring mss u n m size most tack room : Int} {told : V} {syn asked sent : Bool} {held : List UInt8}
local macro_rules | `(tactic| walk_at "N_Sender.pieces") => `(tactic| first | ((with_reducible first | refine' g_name (Str.ofString "self") 0 ?_ ?_ ?_ | refine' g_name (Str.ofString "congestion_window") 1 ?_ ?_ ?_ | refine' g_name (Str.ofString "is_nagle") 2 ?_ ?_ ?_ | refine' g_name (Str.ofString "found") 3 ?_ ?_ ?_ | refine' g_name (Str.ofString "many") 4 ?_ ?_ ?_); walk_at "NM"))
local macro_rules | `(tactic| walk_at "W_Sender.pieces") => `(tactic| repeat (first | walk_at "N_Sender.pieces" | walk_at "W1"))
theorem at_found {φ τ : Store} {f : Addr} {vs vs' : List V} {z : Addr × O} : At f (.list vs) (.list vs') ((φ ++ ((f, .list vs) :: τ)) ++ [z]) (φ ++ ((f, .list vs') :: (τ ++ [z]))) := by
  rw [List.append_assoc]; exact .app .head
def PI (x d p pd q qd : Addr) (iss ring mss u : Int) (asked : Bool) (size most : Int) (told : V) (tack room : Int) (held : List UInt8) (φ : Store) (c : Cfg) (n₀ : Int) (s₀ : Bool) (m₀ : Int) (f : Addr) (l₀ : List (Option V)) (b : Nat) (l : List (Option V)) (σ : Store) : Prop :=
  ∃ n sent m ts pcs, u ≤ n ∧ n ≤ m ∧ n ≤ c.E + 1 ∧ m ≤ c.E + 1 ∧ b = (c.E + 2 - n).toNat ∧ (∃ v, l = l₀ ++ [v, none]) ∧ ts.length = pcs.length ∧ (pcs.length : Int) + u ≤ n ∧ (∀ rest n' s' m', Run c n sent m rest n' s' m' → Run c n₀ s₀ m₀ (pcs ++ rest) n' s' m') ∧
    σ = AS x d p pd q qd iss ring mss u n m false asked sent size most told tack room held (φ ++ ((f, .list (ts.map .ref)) :: tups iss ring u held ts pcs))
theorem c_pieces {c : Cfg} (hr : 0 < ring) (h1 : u ≤ n) (h2 : n ≤ m) (h3 : m ≤ c.E + 1) (hr2 : 2 * (c.E + 2 - u) < ring) (hb : held.length ≤ 900) (hm : 0 < mss) (hsyn : syn = false)
    (e1 : c.u = u) (e2 : c.E = u + held.length) (e3 : c.mss = mss) (e4 : c.size = size) (e5 : c.most = most) (e6 : c.asked = asked)
    (h : ∀ f ts pcs n' s' m', Run c n sent m pcs n' s' m' → ts.length = pcs.length → P (.ref f) (AS x d p pd q qd iss ring mss u n' m' false asked s' size most told tack room held (φ ++ ((f, .list (ts.map .ref)) :: tups iss ring u held ts pcs)))) :
    Cl Sy D (k + 6) (.ref 305) [.ref x, .int c.cw, .bool c.nagle] (AS x d p pd q qd iss ring mss u n m syn asked sent size most told tack room held φ) P := by
  subst hsyn
  obtain ⟨cu, cE, cmss, csize, cmost, ccw, casked, cnagle⟩ := c
  dsimp only at e1 e2 e3 e4 e5 e6 h3 hr2
  subst e1 e3 e4 e5 e6
  refine' cl_def [Str.ofString "self", Str.ofString "congestion_window", Str.ofString "is_nagle"] ?ho ?hc ?hb ?hok ?h
  (case ho => (show List.lookup _ (hd.heap_1 _) = _; k_is)); (case hc => (show codeIn (hd.heap_1 _) _ _ = true; k_is)); (case hok => kernel_rfl)
  case hb =>
    intro s xs X hx
    obtain ⟨x1, x2, x3, rfl, -⟩ := VRs3 hx
    exact BindsTo.of_defaults rfl (X 298 _ (by show List.lookup _ (hd.heap_1 _) = _; k_is)) rfl rfl rfl
  intro L
  refine x_cons (x_assignF (Str.ofString "found") 3 ?_)
  refine e_list ?_
  walk_at "W_Sender.pieces"
  intro f
  refine x_cons (x_if ?_)
  walk_at "W_Sender.pieces"
  refine ⟨fun hc => (nomatch hc), fun _ => ?_⟩
  refine x_nil ?_
  refine x_cons (x_while (PI x d p pd q qd iss ring cmss cu casked csize cmost told tack room held φ ⟨cu, cE, cmss, csize, cmost, ccw, casked, cnagle⟩ n sent m f [some (.ref x), some (.int ccw), some (.bool cnagle), some (.ref f)]) _ ⟨n, sent, m, [], [], h1, h2, by dsimp only; omega, h3, rfl, ⟨none, rfl⟩, rfl, by simpa using h1, fun _ _ _ _ hh => hh, ?_⟩ ?_)
  · simp [tups]
  rintro b l' σ' ⟨n, sent, m, ts, pcs, i1, i2, i3, i4, rfl, ⟨v, rfl⟩, i5, i5', i6, rfl⟩
  dsimp only at i3 i4
  have hU : (held.length : Int) - min (held.length : Int) (max 0 (n - cu - b2i false)) = max 0 (cE - n) := unsent_eq i1 e2
  walk_at "W_Sender.pieces"
  refine c_unsent hr i1 (by omega) (by omega) ?_
  rw [hU]
  walk_at "W_Sender.pieces"
  refine ⟨fun c1 => ?_, fun c1 => ?_⟩ <;> simp only [cmpZ, decide_eq_true_eq, decide_eq_false_iff_not] at c1
  · have c1' : n < cE := by omega
    have hU' : cE - n = (held.length : Int) - min (held.length : Int) (max 0 (n - cu - b2i false)) := by rw [hU]; omega
    refine x_cons (x_assignF (Str.ofString "many") 4 ?_)
    walk_at "W_Sender.pieces"
    refine c_unsent hr i1 (by omega) (by omega) ?_
    rw [← hU']
    walk_at "W_Sender.pieces"
    refine c_usable hr i1 (by omega) ?_
    walk_at "W_Sender.pieces"
    refine x_cons (x_if ?_)
    refine pt (v := decide (Cfg.many ⟨cu, cE, cmss, csize, cmost, ccw, casked, cnagle⟩ n = 0) || (!(Cfg.go ⟨cu, cE, cmss, csize, cmost, ccw, casked, cnagle⟩ n) || false)) (pt_or ?_ fun _ => pt_or (pt_not ?_) fun _ => pt_or0) ?_
    · walk_at "W_Sender.pieces"
    · walk_at "W_Sender.pieces"
      refine c_may_go hr i1 (by omega) (by omega) hU' ?_
      walk_at "W_Sender.pieces"
    refine ⟨fun c2 => ?_, fun c2 => ?_⟩
    · refine x_cons (x_ret ?_)
      walk_at "W_Sender.pieces"
      have hd : Run (⟨cu, cE, cmss, csize, cmost, ccw, casked, cnagle⟩ : Cfg) n sent m [] n sent m := .halt c1' (by simpa using c2)
      have := i6 [] _ _ _ hd
      rw [List.append_nil] at this
      exact h f ts pcs n sent m this i5
    refine x_nil ?_
    have many0 : Cfg.many (⟨cu, cE, cmss, csize, cmost, ccw, casked, cnagle⟩ : Cfg) n ≠ 0 := by
      intro q; rw [q] at c2; simp at c2
    have go1 : Cfg.go (⟨cu, cE, cmss, csize, cmost, ccw, casked, cnagle⟩ : Cfg) n = true := by
      cases q : Cfg.go (⟨cu, cE, cmss, csize, cmost, ccw, casked, cnagle⟩ : Cfg) n with
      | true => rfl
      | false => rw [q] at c2; simp at c2
    have us0 : 0 ≤ Cfg.usab (⟨cu, cE, cmss, csize, cmost, ccw, casked, cnagle⟩ : Cfg) n := usab_pos
    have mpos : 0 < Cfg.many (⟨cu, cE, cmss, csize, cmost, ccw, casked, cnagle⟩ : Cfg) n := by
      have : 0 ≤ Cfg.many (⟨cu, cE, cmss, csize, cmost, ccw, casked, cnagle⟩ : Cfg) n := by unfold Cfg.many; dsimp only; omega
      omega
    have mle : Cfg.many (⟨cu, cE, cmss, csize, cmost, ccw, casked, cnagle⟩ : Cfg) n ≤ cE - n := by unfold Cfg.many; dsimp only; omega
    have fb := b2i_01 (Cfg.fin (⟨cu, cE, cmss, csize, cmost, ccw, casked, cnagle⟩ : Cfg) n)
    refine x_cons (g_expr rfl rfl ?_)
    refine e_append ?_
    walk_at "W_Sender.pieces"
    refine ⟨_, _, rfl, .tail _ (.tail _ (.tail _ (.tail _ (.tail _ (.tail _ (List.mem_append_right _ (.head _))))))), ?_⟩
    walk_at "W_Sender.pieces"
    refine c_piece_of (held := held) (u := cu) (n := n) (m := m) (size := csize) (syn := false) (asked := casked) (DS := n - cu) (U := cE - n) (L := Cfg.last (⟨cu, cE, cmss, csize, cmost, ccw, casked, cnagle⟩ : Cfg) n) (F := Cfg.fin (⟨cu, cE, cmss, csize, cmost, ccw, casked, cnagle⟩ : Cfg) n) hr i1 i2 (by omega) (by omega) (by omega) (by omega) mpos mle (by omega) rfl rfl ?_
    intro t
    refine a_nil ?_
    refine ⟨_, _, AS x d p pd q qd iss ring cmss cu (n + (Cfg.many (⟨cu, cE, cmss, csize, cmost, ccw, casked, cnagle⟩ : Cfg) n + b2i (Cfg.fin (⟨cu, cE, cmss, csize, cmost, ccw, casked, cnagle⟩ : Cfg) n))) (max m (n + (Cfg.many (⟨cu, cE, cmss, csize, cmost, ccw, casked, cnagle⟩ : Cfg) n + b2i (Cfg.fin (⟨cu, cE, cmss, csize, cmost, ccw, casked, cnagle⟩ : Cfg) n)))) false casked (sent || Cfg.fin (⟨cu, cE, cmss, csize, cmost, ccw, casked, cnagle⟩ : Cfg) n) csize cmost told tack room held
      (φ ++ ((f, .list (ts.map .ref ++ [.ref t])) :: (tups iss ring cu held ts pcs ++ [tup1 iss ring cu held t ⟨n, Cfg.many (⟨cu, cE, cmss, csize, cmost, ccw, casked, cnagle⟩ : Cfg) n, Cfg.last (⟨cu, cE, cmss, csize, cmost, ccw, casked, cnagle⟩ : Cfg) n, Cfg.fin (⟨cu, cE, cmss, csize, cmost, ccw, casked, cnagle⟩ : Cfg) n⟩]))), rfl, .tail (.tail (.tail (.tail (.tail (.tail at_found))))), ?_, ?_⟩
    · rw [List.length_map]; omega
    refine x_nil ?_
    have fin_eq : Cfg.fin (⟨cu, cE, cmss, csize, cmost, ccw, casked, cnagle⟩ : Cfg) n = true → Cfg.many (⟨cu, cE, cmss, csize, cmost, ccw, casked, cnagle⟩ : Cfg) n = cE - n := by
      unfold Cfg.fin Cfg.last
      simp only [Bool.and_eq_true, decide_eq_true_eq]
      exact fun q => q.1
    have nE : n + (Cfg.many (⟨cu, cE, cmss, csize, cmost, ccw, casked, cnagle⟩ : Cfg) n + b2i (Cfg.fin (⟨cu, cE, cmss, csize, cmost, ccw, casked, cnagle⟩ : Cfg) n)) ≤ cE + 1 := by omega
    refine ⟨_, ?_, (n + (Cfg.many (⟨cu, cE, cmss, csize, cmost, ccw, casked, cnagle⟩ : Cfg) n + b2i (Cfg.fin (⟨cu, cE, cmss, csize, cmost, ccw, casked, cnagle⟩ : Cfg) n))), (sent || Cfg.fin (⟨cu, cE, cmss, csize, cmost, ccw, casked, cnagle⟩ : Cfg) n), (max m (n + (Cfg.many (⟨cu, cE, cmss, csize, cmost, ccw, casked, cnagle⟩ : Cfg) n + b2i (Cfg.fin (⟨cu, cE, cmss, csize, cmost, ccw, casked, cnagle⟩ : Cfg) n)))), ts ++ [t], pcs ++ [⟨n, Cfg.many (⟨cu, cE, cmss, csize, cmost, ccw, casked, cnagle⟩ : Cfg) n, Cfg.last (⟨cu, cE, cmss, csize, cmost, ccw, casked, cnagle⟩ : Cfg) n, Cfg.fin (⟨cu, cE, cmss, csize, cmost, ccw, casked, cnagle⟩ : Cfg) n⟩], ?_, ?_, nE, ?_, rfl, ⟨_, rfl⟩, ?_, ?_, fun rest n' s' m' hh => ?_, ?_⟩
    · dsimp only; omega
    · omega
    · omega
    · dsimp only; omega
    · simp [i5]
    · simp only [List.length_append, List.length_cons, List.length_nil]; omega
    · rw [List.append_assoc]
      exact i6 _ _ _ _ (.step c1' many0 go1 hh)
    · rw [tups_snoc i5, List.map_append]
      rfl
  · have c1' : cE ≤ n := by omega
    refine x_cons (x_if ?_)
    refine pt (v := Cfg.due (⟨cu, cE, cmss, csize, cmost, ccw, casked, cnagle⟩ : Cfg) n sent m && (decide (0 < Cfg.usab (⟨cu, cE, cmss, csize, cmost, ccw, casked, cnagle⟩ : Cfg) n) && true)) (pt_and ?_ fun _ => pt_and ?_ fun _ => pt_and0) ?_
    · walk_at "W_Sender.pieces"
      refine c_fin_due hr i1 i2 (by omega) (by omega) ?_
      have el : (held.length : Int) = cE - cu := by omega
      rw [el]
      exact ⟨_, rfl, rfl, rfl, .rfl⟩
    · walk_at "W_Sender.pieces"
      refine c_usable hr i1 (by omega) ?_
      walk_at "W_Sender.pieces"
    refine ⟨fun c2 => ?_, fun c2 => ?_⟩
    · simp only [Bool.and_true, Bool.and_eq_true, decide_eq_true_eq] at c2
      obtain ⟨due, us⟩ := c2
      have nle : n ≤ cE := by
        have := due
        unfold Cfg.due at this
        simp only [Bool.and_eq_true, decide_eq_true_eq] at this
        have h2 := this.2
        have : b2i false = 0 := rfl
        omega
      refine x_cons (g_expr rfl rfl ?_)
      refine e_append ?_
      walk_at "W_Sender.pieces"
      refine ⟨_, _, rfl, .tail _ (.tail _ (.tail _ (.tail _ (.tail _ (.tail _ (List.mem_append_right _ (.head _))))))), ?_⟩
      walk_at "W_Sender.pieces"
      refine e_tuple ?_
      walk_at "W_Sender.pieces"
      intro t
      refine a_nil ?_
      refine ⟨_, _, AS x d p pd q qd iss ring cmss cu n m false casked sent csize cmost told tack room held
        (φ ++ ((f, .list (ts.map .ref ++ [.ref t])) :: (tups iss ring cu held ts pcs ++ [(t, .tup [.int ((iss + n).fmod ring), .byt [], .bool false, .bool true])]))), rfl, .tail (.tail (.tail (.tail (.tail (.tail at_found))))), ?_, ?_⟩
      · rw [List.length_map]; omega
      refine x_cons (g_setattr rfl ?_)
      walk_at "W_Sender.pieces"
      refine ⟨_, _, _, _, _, _, rfl, (by walk_at "MEM"), (by walk_at "SETA"), by decide, atK (by walk_at "KA") rfl (.tail .head), ?_⟩
      refine x_cons (g_expr rfl rfl ?_)
      walk_at "W_Sender.pieces"
      refine c_go_on hr (by omega) (by omega) ?_
      refine x_nil ?_
      refine x_cons (x_ret ?_)
      walk_at "W_Sender.pieces"
      have hd : Run (⟨cu, cE, cmss, csize, cmost, ccw, casked, cnagle⟩ : Cfg) n sent m [⟨n, 0, false, true⟩] (n + 1) true (max m (n + 1)) := .fin c1' due us
      have := h f (ts ++ [t]) (pcs ++ [⟨n, 0, false, true⟩]) (n + 1) true (max m (n + 1)) (i6 _ _ _ _ hd) (by simp [i5])
      rw [tups_snoc i5, List.map_append] at this
      unfold tup1 at this
      rw [octs_nil] at this
      exact this
    · refine x_nil ?_
      refine x_cons (x_ret ?_)
      walk_at "W_Sender.pieces"
      have := i6 [] _ _ _ (.done c1' c2)
      rw [List.append_nil] at this
      exact h f ts pcs n sent m this i5
end
section
variable {D : Dx} {k : Nat} {σ φ : Store} {P : V → Store → Prop}
local macro_rules | `(tactic| walk_at "N_SendQueue.__init__") => `(tactic| first | ((with_reducible first | refine' g_name (Str.ofString "self") 0 ?_ ?_ ?_ | refine' g_name (Str.ofString "room") 1 ?_ ?_ ?_); walk_at "NM"))
local macro_rules | `(tactic| walk_at "W_SendQueue.__init__") => `(tactic| repeat (first | walk_at "N_SendQueue.__init__" | walk_at "W1"))
theorem c_qinit {q qd : Addr} {room : Int} (h1 : 1 ≤ room) (h : P .none (σ ++ [(qd, .dict KQ [.int room, .byt []]), (q, .inst 117 qd)])) :
    Cl Sy D (k + 1) (.ref 79) [.ref q, .int room] (σ ++ [(qd, .dict [] []), (q, .inst 117 qd)]) P := by
  refine' cl_def [Str.ofString "self", Str.ofString "room"] ?ho ?hc ?hb ?hok ?h
  (case ho => (show List.lookup _ (hd.heap_1 _) = _; k_is)); (case hc => (show codeIn (hd.heap_1 _) _ _ = true; k_is)); (case hok => kernel_rfl); (case hb => (intro s xs _ hx; (first | (obtain ⟨x1, rfl, -⟩ := VRs1 hx) | (obtain ⟨x1, x2, rfl, -⟩ := VRs2 hx) | (obtain ⟨x1, x2, x3, rfl, -⟩ := VRs3 hx) | (obtain ⟨x1, x2, x3, x4, rfl, -⟩ := VRs4 hx) | (obtain ⟨x1, x2, x3, x4, x5, rfl, -⟩ := VRs5 hx)); exact BindsTo.of_eq (by kernel_rfl))); intro L
  refine x_cons (x_if ?_)
  walk_at "W_SendQueue.__init__"
  refine ⟨fun hc => absurd hc (by simp only [cmpZ, decide_eq_true_eq]; omega), fun _ => ?_⟩
  refine x_nil ?_
  refine x_cons (g_setattr rfl ?_)
  walk_at "W_SendQueue.__init__"
  refine ⟨_, _, _, _, _, _, rfl, List.mem_append_right _ (by walk_at "MEM"), (by walk_at "SETA"), by decide, atA ⟨by kernel_rfl⟩ (.app .head), ?_⟩
  refine x_cons (g_setattr rfl ?_)
  walk_at "W_SendQueue.__init__"
  refine ⟨_, _, _, _, _, _, rfl, List.mem_append_right _ (by walk_at "MEM"), (by walk_at "SETA"), by decide, atA ⟨by kernel_rfl⟩ (.app .head), ?_⟩
  exact x_nil h
local macro_rules | `(tactic| walk_at "N_PeerWindow.__init__") => `(tactic| first | ((with_reducible first | refine' g_name (Str.ofString "self") 0 ?_ ?_ ?_ | refine' g_name (Str.ofString "ring") 1 ?_ ?_ ?_); walk_at "NM"))
local macro_rules | `(tactic| walk_at "W_PeerWindow.__init__") => `(tactic| repeat (first | walk_at "N_PeerWindow.__init__" | walk_at "W1"))
theorem c_pinit {p pd : Addr} {ring : Int} (h : P .none (σ ++ [(pd, .dict KP [.int ring, .int 0, .int 0, .none, .int 0]), (p, .inst 180 pd)])) :
    Cl Sy D (k + 1) (.ref 163) [.ref p, .int ring] (σ ++ [(pd, .dict [] []), (p, .inst 180 pd)]) P := by
  refine' cl_def [Str.ofString "self", Str.ofString "ring"] ?ho ?hc ?hb ?hok ?h
  (case ho => (show List.lookup _ (hd.heap_1 _) = _; k_is)); (case hc => (show codeIn (hd.heap_1 _) _ _ = true; k_is)); (case hok => kernel_rfl); (case hb => (intro s xs _ hx; (first | (obtain ⟨x1, rfl, -⟩ := VRs1 hx) | (obtain ⟨x1, x2, rfl, -⟩ := VRs2 hx) | (obtain ⟨x1, x2, x3, rfl, -⟩ := VRs3 hx) | (obtain ⟨x1, x2, x3, x4, rfl, -⟩ := VRs4 hx) | (obtain ⟨x1, x2, x3, x4, x5, rfl, -⟩ := VRs5 hx)); exact BindsTo.of_eq (by kernel_rfl))); intro L
  refine x_cons (g_setattr rfl ?_)
  walk_at "W_PeerWindow.__init__"
  refine ⟨_, _, _, _, _, _, rfl, List.mem_append_right _ (by walk_at "MEM"), (by walk_at "SETA"), by decide, atA ⟨by kernel_rfl⟩ (.app .head), ?_⟩
  refine x_cons (g_setattr rfl ?_)
  walk_at "W_PeerWindow.__init__"
  refine ⟨_, _, _, _, _, _, rfl, List.mem_append_right _ (by walk_at "MEM"), (by walk_at "SETA"), by decide, atA ⟨by kernel_rfl⟩ (.app .head), ?_⟩
  refine x_cons (g_setattr rfl ?_)
  walk_at "W_PeerWindow.__init__"
  refine ⟨_, _, _, _, _, _, rfl, List.mem_append_right _ (by walk_at "MEM"), (by walk_at "SETA"), by decide, atA ⟨by kernel_rfl⟩ (.app .head), ?_⟩
  refine x_cons (g_setattr rfl ?_)
  walk_at "W_PeerWindow.__init__"
  refine ⟨_, _, _, _, _, _, rfl, List.mem_append_right _ (by walk_at "MEM"), (by walk_at "SETA"), by decide, atA ⟨by kernel_rfl⟩ (.app .head), ?_⟩
  refine x_cons (g_setattr rfl ?_)
  walk_at "W_PeerWindow.__init__"
  refine ⟨_, _, _, _, _, _, rfl, List.mem_append_right _ (by walk_at "MEM"), (by walk_at "SETA"), by decide, atA ⟨by kernel_rfl⟩ (.app .head), ?_⟩
  exact x_nil h
local macro_rules | `(tactic| walk_at "N_Sender.__init__") => `(tactic| first | ((with_reducible first | refine' g_name (Str.ofString "self") 0 ?_ ?_ ?_ | refine' g_name (Str.ofString "iss") 1 ?_ ?_ ?_ | refine' g_name (Str.ofString "ring") 2 ?_ ?_ ?_ | refine' g_name (Str.ofString "mss") 3 ?_ ?_ ?_ | refine' g_name (Str.ofString "room") 4 ?_ ?_ ?_); walk_at "NM"))
local macro_rules | `(tactic| walk_at "W_Sender.__init__") => `(tactic| repeat (first | walk_at "N_Sender.__init__" | walk_at "W1"))
theorem c_sinit {x d : Addr} {iss ring mss room : Int} (h1 : 1 ≤ room) (h : ∀ p pd q qd, P .none (σ ++ [(d, .dict KS [.int iss, .int ring, .int mss, .int iss, .int iss, .int iss, .ref p, .ref q, .bool true, .bool false, .bool false]), (x, .inst 371 d),
      (pd, .dict KP [.int ring, .int 0, .int 0, .none, .int 0]), (p, .inst 180 pd), (qd, .dict KQ [.int room, .byt []]), (q, .inst 117 qd)])) :
    Cl Sy D (k + 4) (.ref 198) [.ref x, .int iss, .int ring, .int mss, .int room] (σ ++ [(d, .dict [] []), (x, .inst 371 d)]) P := by
  refine' cl_def [Str.ofString "self", Str.ofString "iss", Str.ofString "ring", Str.ofString "mss", Str.ofString "room"] ?ho ?hc ?hb ?hok ?h
  (case ho => (show List.lookup _ (hd.heap_1 _) = _; k_is)); (case hc => (show codeIn (hd.heap_1 _) _ _ = true; k_is)); (case hok => kernel_rfl); (case hb => (intro s xs _ hx; (first | (obtain ⟨x1, rfl, -⟩ := VRs1 hx) | (obtain ⟨x1, x2, rfl, -⟩ := VRs2 hx) | (obtain ⟨x1, x2, x3, rfl, -⟩ := VRs3 hx) | (obtain ⟨x1, x2, x3, x4, rfl, -⟩ := VRs4 hx) | (obtain ⟨x1, x2, x3, x4, x5, rfl, -⟩ := VRs5 hx)); exact BindsTo.of_eq (by kernel_rfl))); intro L
  refine x_cons (g_setattr rfl ?_)
  walk_at "W_Sender.__init__"
  refine ⟨_, _, _, _, _, _, rfl, List.mem_append_right _ (by walk_at "MEM"), (by walk_at "SETA"), by decide, atA ⟨by kernel_rfl⟩ (.app .head), ?_⟩
  refine x_cons (g_setattr rfl ?_)
  walk_at "W_Sender.__init__"
  refine ⟨_, _, _, _, _, _, rfl, List.mem_append_right _ (by walk_at "MEM"), (by walk_at "SETA"), by decide, atA ⟨by kernel_rfl⟩ (.app .head), ?_⟩
  refine x_cons (g_setattr rfl ?_)
  walk_at "W_Sender.__init__"
  refine ⟨_, _, _, _, _, _, rfl, List.mem_append_right _ (by walk_at "MEM"), (by walk_at "SETA"), by decide, atA ⟨by kernel_rfl⟩ (.app .head), ?_⟩
  refine x_cons (g_setattr rfl ?_)
  walk_at "W_Sender.__init__"
  refine ⟨_, _, _, _, _, _, rfl, List.mem_append_right _ (by walk_at "MEM"), (by walk_at "SETA"), by decide, atA ⟨by kernel_rfl⟩ (.app .head), ?_⟩
  refine x_cons (g_setattr rfl ?_)
  walk_at "W_Sender.__init__"
  refine ⟨_, _, _, _, _, _, rfl, List.mem_append_right _ (by walk_at "MEM"), (by walk_at "SETA"), by decide, atA ⟨by kernel_rfl⟩ (.app .head), ?_⟩
  refine x_cons (g_setattr rfl ?_)
  walk_at "W_Sender.__init__"
  refine ⟨_, _, _, _, _, _, rfl, List.mem_append_right _ (by walk_at "MEM"), (by walk_at "SETA"), by decide, atA ⟨by kernel_rfl⟩ (.app .head), ?_⟩
  refine x_cons (g_setattr rfl ?_)
  walk_at "W_Sender.__init__"
  refine cl_newF new_PeerWindow fun p pd => c_pinit ⟨rfl, ?_⟩
  rw [List.append_assoc]
  walk_at "W_Sender.__init__"
  refine ⟨_, _, _, _, _, _, rfl, List.mem_append_right _ (by walk_at "MEM"), (by walk_at "SETA"), by decide, atA ⟨by kernel_rfl⟩ (.app .head), ?_⟩
  refine x_cons (g_setattr rfl ?_)
  walk_at "W_Sender.__init__"
  refine cl_newF new_SendQueue fun q qd => c_qinit h1 ⟨rfl, ?_⟩
  rw [List.append_assoc]
  walk_at "W_Sender.__init__"
  refine ⟨_, _, _, _, _, _, rfl, List.mem_append_right _ (by walk_at "MEM"), (by walk_at "SETA"), by decide, atA ⟨by kernel_rfl⟩ (.app .head), ?_⟩
  refine x_cons (g_setattr rfl ?_)
  walk_at "W_Sender.__init__"
  refine ⟨_, _, _, _, _, _, rfl, List.mem_append_right _ (by walk_at "MEM"), (by walk_at "SETA"), by decide, atA ⟨by kernel_rfl⟩ (.app .head), ?_⟩
  refine x_cons (g_setattr rfl ?_)
  walk_at "W_Sender.__init__"
  refine ⟨_, _, _, _, _, _, rfl, List.mem_append_right _ (by walk_at "MEM"), (by walk_at "SETA"), by decide, atA ⟨by kernel_rfl⟩ (.app .head), ?_⟩
  refine x_cons (g_setattr rfl ?_)
  walk_at "W_Sender.__init__"
  refine ⟨_, _, _, _, _, _, rfl, List.mem_append_right _ (by walk_at "MEM"), (by walk_at "SETA"), by decide, atA ⟨by kernel_rfl⟩ (.app .head), ?_⟩
  exact x_nil (h p pd q qd)
end
section
variable {D : Dx} {k : Nat} {σ φ : Store} {P : V → Store → Prop}
theorem fmod_in {a t : Int} (h : 0 < t) : 0 ≤ a.fmod t ∧ a.fmod t < t := ⟨Int.fmod_nonneg_of_pos a h, Int.fmod_lt_of_pos a h⟩
local macro_rules | `(tactic| walk_at "N__law_take") => `(tactic| first | ((with_reducible first | refine' g_name (Str.ofString "source") 0 ?_ ?_ ?_ | refine' g_name (Str.ofString "top") 1 ?_ ?_ ?_ | refine' g_name (Str.ofString "drawn") 2 ?_ ?_ ?_); walk_at "NM"))
local macro_rules | `(tactic| walk_at "W__law_take") => `(tactic| repeat (first | walk_at "N__law_take" | walk_at "W1"))
theorem c_ltake {src : Addr} {a b t : Int} {σ' : Int → Int → Store} (hat : ∀ a' b', At src (.list [.int a, .int b]) (.list [.int a', .int b']) σ (σ' a' b')) (ht : 0 < t) (h : ∀ a' b' r, 0 ≤ r → r < t → P (.int r) (σ' a' b')) :
    Cl Sy D (k + 1) (.ref 389) [.ref src, .int t] σ P := by
  have h0 : (src, O.list [.int a, .int b]) ∈ σ := (hat 0 0).mem
  refine' cl_def [Str.ofString "source", Str.ofString "top"] ?ho ?hc ?hb ?hok ?h
  (case ho => (show List.lookup _ (hd.heap_1 _) = _; k_is)); (case hc => (show codeIn (hd.heap_1 _) _ _ = true; k_is)); (case hok => kernel_rfl); (case hb => (intro s xs _ hx; (first | (obtain ⟨x1, rfl, -⟩ := VRs1 hx) | (obtain ⟨x1, x2, rfl, -⟩ := VRs2 hx) | (obtain ⟨x1, x2, x3, rfl, -⟩ := VRs3 hx) | (obtain ⟨x1, x2, x3, x4, rfl, -⟩ := VRs4 hx) | (obtain ⟨x1, x2, x3, x4, x5, rfl, -⟩ := VRs5 hx)); exact BindsTo.of_eq (by kernel_rfl))); intro L
  refine x_cons (x_if ?_)
  walk_at "W__law_take"
  refine i_list h0 (by decide) (by decide) rfl ?_
  walk_at "W__law_take"
  refine ⟨fun _ => ?_, fun _ => ?_⟩
  · refine x_cons (x_assignF (Str.ofString "drawn") 2 ?_)
    walk_at "W__law_take"
    refine i_list h0 (by decide) (by decide) rfl ?_
    walk_at "W__law_take"
    refine x_cons (x_setitem ?_)
    walk_at "W__law_take"
    refine i_list h0 (by decide) (by decide) rfl ?_
    walk_at "W__law_take"
    intro y hy
    walk_at "W__law_take"
    refine st_list hy (by decide) (by decide) (by show _ < 2; decide) (hat _ _) ?_
    refine x_cons (x_ret ?_)
    walk_at "W__law_take"
    exact h _ _ _ (fmod_in ht).1 (fmod_in ht).2
  refine x_nil ?_
  refine x_cons (x_setitem ?_)
  walk_at "W__law_take"
  refine i_list h0 (by decide) (by decide) rfl ?_
  walk_at "W__law_take"
  intro y hy
  walk_at "W__law_take"
  refine st_list hy (by decide) (by decide) (by show _ < 2; decide) (hat _ _) ?_
  have hn := (hat a ((b * 39373 + 7).fmod 2147483647)).new
  have hr := fmod_in (a := b * 39373 + 7) (t := 2147483647) (by decide)
  generalize (b * 39373 + 7).fmod 2147483647 = X at hn hr ⊢
  refine x_cons (x_ret ?_)
  walk_at "W__law_take"
  refine i_list hn (by decide) (by decide) rfl ?_
  walk_at "W__law_take"
  refine i_list hn (by decide) (by decide) rfl ?_
  refine ⟨_, _, rfl, rfl, IntMulOk.of_left (intBits_le_64 (by omega) (by omega)), ?_⟩
  walk_at "W__law_take"
  exact h _ _ _ (fmod_in ht).1 (fmod_in ht).2
local macro_rules | `(tactic| walk_at "N__law_one") => `(tactic| first | ((with_reducible first | refine' g_name (Str.ofString "source") 0 ?_ ?_ ?_ | refine' g_name (Str.ofString "things") 1 ?_ ?_ ?_); walk_at "NM"))
local macro_rules | `(tactic| walk_at "W__law_one") => `(tactic| repeat (first | walk_at "N__law_one" | walk_at "W1"))
theorem c_lone {src th : Addr} {a b : Int} {vs : List V} {σ' : Int → Int → Store} (hat : ∀ a' b', At src (.list [.int a, .int b]) (.list [.int a', .int b']) σ (σ' a' b')) (h0 : (th, O.list vs) ∈ σ) (hm : ∀ a' b', (th, O.list vs) ∈ σ' a' b')
    (h1 : 0 < vs.length) (h2 : vs.length ≤ 1000) (h : ∀ a' b' v, v ∈ vs → P v (σ' a' b')) : Cl Sy D (k + 2) (.ref 396) [.ref src, .ref th] σ P := by
  refine' cl_def [Str.ofString "source", Str.ofString "things"] ?ho ?hc ?hb ?hok ?h
  (case ho => (show List.lookup _ (hd.heap_1 _) = _; k_is)); (case hc => (show codeIn (hd.heap_1 _) _ _ = true; k_is)); (case hok => kernel_rfl); (case hb => (intro s xs _ hx; (first | (obtain ⟨x1, rfl, -⟩ := VRs1 hx) | (obtain ⟨x1, x2, rfl, -⟩ := VRs2 hx) | (obtain ⟨x1, x2, x3, rfl, -⟩ := VRs3 hx) | (obtain ⟨x1, x2, x3, x4, rfl, -⟩ := VRs4 hx) | (obtain ⟨x1, x2, x3, x4, x5, rfl, -⟩ := VRs5 hx)); exact BindsTo.of_eq (by kernel_rfl))); intro L
  refine x_cons (x_ret ?_)
  refine e_item ?_
  walk_at "W__law_one"
  refine b_lenl h0 (by omega) ?_
  refine a_nil ?_
  refine c_ltake hat (by omega) fun a' b' r r0 r1 => ?_
  have hlt : r.toNat < vs.length := by omega
  refine i_list (hm a' b') r0 (by omega) (nth_of_lt hlt) ?_
  exact h _ _ _ (List.getElem_mem hlt)
local macro_rules | `(tactic| walk_at "N__law_pool") => `(tactic| first | ((with_reducible first | refine' g_name (Str.ofString "script") 0 ?_ ?_ ?_ | refine' g_name (Str.ofString "k") 1 ?_ ?_ ?_ | refine' g_name (Str.ofString "cell") 2 ?_ ?_ ?_ | refine' g_name (Str.ofString "big") 3 ?_ ?_ ?_ | refine' g_name (Str.ofString "mixed") 4 ?_ ?_ ?_); walk_at "NM"))
local macro_rules | `(tactic| walk_at "W__law_pool") => `(tactic| repeat (first | walk_at "N__law_pool" | walk_at "W1"))
theorem c_lpool {kk : Int} (hk0 : 0 ≤ kk) (hk1 : kk < 1000) (hn : D.ns.length < 2 ^ 62) (h : ∀ t a b, P (.ref t) (σ ++ [(t, .list [.int a, .int b])])) : Cl Sy D (k + 1) (.ref 382) [.ref D.ls, .int kk] σ P := by
  refine' cl_def [Str.ofString "script", Str.ofString "k"] ?ho ?hc ?hb ?hok ?h
  (case ho => (show List.lookup _ (hd.heap_1 _) = _; k_is)); (case hc => (show codeIn (hd.heap_1 _) _ _ = true; k_is)); (case hok => kernel_rfl); (case hb => (intro s xs _ hx; (first | (obtain ⟨x1, rfl, -⟩ := VRs1 hx) | (obtain ⟨x1, x2, rfl, -⟩ := VRs2 hx) | (obtain ⟨x1, x2, x3, rfl, -⟩ := VRs3 hx) | (obtain ⟨x1, x2, x3, x4, rfl, -⟩ := VRs4 hx) | (obtain ⟨x1, x2, x3, x4, x5, rfl, -⟩ := VRs5 hx)); exact BindsTo.of_eq (by kernel_rfl))); intro L
  refine x_cons (x_assignF (Str.ofString "cell") 2 ?_)
  refine ev_any (fun v => ∃ c, v = .int c) ?_ ?_
  · refine e_if ?_
    walk_at "W__law_pool"
    refine b_lens hn ?_
    walk_at "W__law_pool"
    refine ⟨fun c => ?_, fun c => ?_⟩
    · simp only [cmpZ, decide_eq_true_eq] at c
      have hlt : kk.toNat < D.ns.length := by omega
      refine e_item ?_
      walk_at "W__law_pool"
      refine i_scr hk0 (by omega) (List.getElem?_eq_getElem hlt) ?_
      exact ⟨⟨_, rfl⟩, rfl, .rfl⟩
    · walk_at "W__law_pool"
      exact ⟨⟨_, rfl⟩, rfl, .rfl⟩
  rintro _ ⟨c, rfl⟩
  refine x_cons (x_assignF (Str.ofString "big") 3 ?_)
  walk_at "W__law_pool"
  refine x_cons (x_assignF (Str.ofString "mixed") 4 ?_)
  walk_at "W__law_pool"
  refine And.intro (IntMulOk.of_right (intBits_le_64 (by omega) (by omega))) ?_
  walk_at "W__law_pool"
  refine x_cons (x_ret ?_)
  refine e_list ?_
  walk_at "W__law_pool"
  refine e_pow ?_
  walk_at "W__law_pool"
  have hbb := b2i_01 (cmpZ CmpOp.GtE (max c (-1 - c)) (10 ^ Int.toNat 18))
  refine And.intro (IntMulOk.of_right (intBits_le_64 (by omega) (by omega))) ?_
  walk_at "W__law_pool"
  exact fun t => h t _ _
end
section
variable {D : Dx} {k : Nat} {σ φ : Store} {P : V → Store → Prop}
abbrev KBV (iss mss una nx en : Int) (asked : Bool) (win wid heard : Int) (sm : Addr) (mixed : Bool) : List V := [.int iss, .int mss, .int una, .int nx, .int en, .bool asked, .int win, .int wid, .int heard, .ref sm, .bool mixed]
inductive DueR (c : Cfg) : Int → List (Int × Bool) → Prop
  | halt {n} : n < c.E → (c.many n = 0 ∨ c.go n = false) → DueR c n []
  | step {n l} : n < c.E → c.many n ≠ 0 → c.go n = true → DueR c (n + (c.many n + b2i (c.fin n))) l → DueR c n ((c.many n, c.fin n) :: l)
  | fin {n} : c.E ≤ n → (c.asked && (decide (n = c.E) && (decide (0 < c.usab n) && true))) = true → DueR c n [(0, true)]
  | done {n} : c.E ≤ n → (c.asked && (decide (n = c.E) && (decide (0 < c.usab n) && true))) = false → DueR c n []
def duT (ts : List Addr) (ds : List (Int × Bool)) : Store := List.zipWith (fun t p => (t, O.tup [.int p.1, .bool p.2])) ts ds
theorem duT_snoc {ts : List Addr} {ds : List (Int × Bool)} {t : Addr} {p : Int × Bool} (h : ts.length = ds.length) : duT (ts ++ [t]) (ds ++ [p]) = duT ts ds ++ [(t, .tup [.int p.1, .bool p.2])] := by
  unfold duT
  rw [List.zipWith_append h]
  rfl
def DI (c : Cfg) (n₀ : Int) (σ : Store) (f : Addr) (l₀ : List (Option V)) (l₁ : List (Option V)) (b : Nat) (l : List (Option V)) (σ' : Store) : Prop :=
  ∃ n ts ds v1 v2 v3 v4 v5 v6, c.u ≤ n ∧ b = (c.E + 2 - n).toNat ∧ l = l₀ ++ [some (.int n)] ++ l₁ ++ [v1, v2, v3, v4, v5, v6] ++ [none, none, none] ∧ ts.length = ds.length ∧ (ds.length : Int) + c.u ≤ n ∧ (∀ rest, DueR c n rest → DueR c n₀ (ds ++ rest)) ∧
    σ' = σ ++ ((f, .list (ts.map .ref)) :: duT ts ds)
theorem many_eq {c : Cfg} {n : Int} : min c.mss (min (c.E - n) (max 0 (c.u + min c.size c.cw - n))) = c.many n := by
  unfold Cfg.many Cfg.usab
  rw [show c.u + min c.size c.cw - n = min c.size c.cw - (n - c.u) by generalize min c.size c.cw = z; omega]
theorem worth_eq {c : Cfg} {n : Int} (h : c.u ≤ n) : (decide (c.many n = c.mss) || (((decide (n = c.u) || !c.nagle) || (c.last n && c.asked)) && (c.last n || decide (c.most ≤ 2 * c.many n)))) = c.go n := by
  have hle : c.many n ≤ c.mss := by unfold Cfg.many; omega
  unfold Cfg.go Cfg.last
  have e1 : decide (c.many n = c.mss) = decide (c.mss ≤ c.many n) := by rw [decide_eq_decide]; omega
  have e2 : decide (n = c.u) = !decide (0 < n - c.u) := by rw [← decide_not, decide_eq_decide]; omega
  rw [e1, e2]
  generalize decide (c.mss ≤ c.many n) = a1
  generalize decide (0 < n - c.u) = a2
  generalize decide (c.many n = c.E - n) = a3
  generalize decide (c.most ≤ 2 * c.many n) = a4
  cases a1 <;> cases a2 <;> cases a3 <;> cases a4 <;> cases c.nagle <;> cases c.asked <;> rfl
theorem fin_eq {c : Cfg} {n : Int} (h : 0 < c.many n) : (c.last n && c.asked && decide (c.many n < c.u + min c.size c.cw - n)) = c.fin n := by
  unfold Cfg.fin
  have e : decide (c.many n < c.u + min c.size c.cw - n) = decide (c.many n < c.usab n) := by
    rw [decide_eq_decide]
    unfold Cfg.usab
    omega
  rw [e]
  cases c.last n <;> cases c.asked <;> rfl
local macro_rules | `(tactic| walk_at "N__law_due") => `(tactic| first | ((with_reducible first | refine' g_name (Str.ofString "state") 0 ?_ ?_ ?_ | refine' g_name (Str.ofString "congestion") 1 ?_ ?_ ?_ | refine' g_name (Str.ofString "is_nagle") 2 ?_ ?_ ?_ | refine' g_name (Str.ofString "una") 3 ?_ ?_ ?_ | refine' g_name (Str.ofString "at") 4 ?_ ?_ ?_ | refine' g_name (Str.ofString "end") 5 ?_ ?_ ?_ | refine' g_name (Str.ofString "found") 6 ?_ ?_ ?_ | refine' g_name (Str.ofString "edge") 7 ?_ ?_ ?_ | refine' g_name (Str.ofString "many") 8 ?_ ?_ ?_ | refine' g_name (Str.ofString "is_all") 9 ?_ ?_ ?_ | refine' g_name (Str.ofString "is_idle") 10 ?_ ?_ ?_ | refine' g_name (Str.ofString "ends") 11 ?_ ?_ ?_ | refine' g_name (Str.ofString "worth") 12 ?_ ?_ ?_ | refine' g_name (Str.ofString "has_fin") 13 ?_ ?_ ?_); walk_at "NM"))
local macro_rules | `(tactic| walk_at "W__law_due") => `(tactic| repeat (first | walk_at "N__law_due" | walk_at "W1"))
theorem c_due {c : Cfg} {st sm : Addr} {iss nx heard : Int} {mixed : Bool} (hm : (st, O.map KB (KBV iss c.mss c.u nx c.E c.asked c.size c.most heard sm mixed)) ∈ σ) (h1 : c.u ≤ nx) (h2 : nx - c.u ≤ 900) (h3 : c.E - c.u ≤ 900) (h4 : 0 < c.mss)
    (h : ∀ f ts ds, DueR c nx ds → ts.length = ds.length → P (.ref f) (σ ++ ((f, .list (ts.map .ref)) :: duT ts ds))) : Cl Sy D (k + 1) (.ref 403) [.ref st, .int c.cw, .bool c.nagle] σ P := by
  obtain ⟨cu, cE, cmss, csize, cmost, ccw, casked, cnagle⟩ := c
  dsimp only at hm h1 h2 h3 h4 ⊢
  refine' cl_def [Str.ofString "state", Str.ofString "congestion", Str.ofString "is_nagle"] ?ho ?hc ?hb ?hok ?h
  (case ho => (show List.lookup _ (hd.heap_1 _) = _; k_is)); (case hc => (show codeIn (hd.heap_1 _) _ _ = true; k_is)); (case hok => kernel_rfl); (case hb => (intro s xs _ hx; (first | (obtain ⟨x1, rfl, -⟩ := VRs1 hx) | (obtain ⟨x1, x2, rfl, -⟩ := VRs2 hx) | (obtain ⟨x1, x2, x3, rfl, -⟩ := VRs3 hx) | (obtain ⟨x1, x2, x3, x4, rfl, -⟩ := VRs4 hx) | (obtain ⟨x1, x2, x3, x4, x5, rfl, -⟩ := VRs5 hx)); exact BindsTo.of_eq (by kernel_rfl))); intro L
  refine x_cons (x_tupS (names := [Str.ofString "una", Str.ofString "at", Str.ofString "end"]) ?_ rfl rfl)
  refine e_tuple ?_
  walk_at "W__law_due"
  intro t0
  refine ⟨_, _, rfl, List.mem_append_right _ (.head _), rfl, ?_⟩
  refine s_more fun _ hx => s_bind 5 hx ?_
  refine s_more fun _ hx => s_bind 4 hx ?_
  refine s_more fun _ hx => s_bind 3 hx ?_
  refine s_last ?_
  refine J.weak ⟨_, rfl⟩ ?_
  refine x_cons (x_tupS (names := [Str.ofString "found", Str.ofString "edge"]) ?_ rfl rfl)
  refine e_tuple ?_
  walk_at "W__law_due"
  refine e_list ?_
  walk_at "W__law_due"
  intro f
  walk_at "W__law_due"
  intro t1
  refine ⟨_, _, rfl, List.mem_append_right _ (.head _), rfl, ?_⟩
  refine s_more fun _ hx => s_bind 7 hx ?_
  refine s_more fun _ hx => s_bind 6 hx ?_
  refine s_last ?_
  refine J.weak ⟨_, rfl⟩ ?_
  refine x_cons (x_while (DI (⟨cu, cE, cmss, csize, cmost, ccw, casked, cnagle⟩ : Cfg) nx σ f [some (.ref st), some (.int ccw), some (.bool cnagle), some (.int cu)] [some (.int cE), some (.ref f), some (.int (cu + min csize ccw))]) _ ⟨nx, [], [], _, _, _, _, _, _, h1, rfl, rfl, rfl, by simpa using h1, fun _ hh => hh, rfl⟩ ?_)
  rintro b l' σ' ⟨n, ts, ds, v1, v2, v3, v4, v5, v6, i1, rfl, rfl, i5, i5', i6, rfl⟩
  dsimp only at i1 i5'
  walk_at "W__law_due"
  refine ⟨fun c1 => ?_, fun c1 => ?_⟩ <;> simp only [cmpZ, decide_eq_true_eq, decide_eq_false_iff_not] at c1
  · refine x_cons (x_assignF (Str.ofString "many") 8 ?_)
    walk_at "W__law_due"
    rw [many_eq (c := (⟨cu, cE, cmss, csize, cmost, ccw, casked, cnagle⟩ : Cfg))]
    refine x_cons (x_tupS (names := [Str.ofString "is_all", Str.ofString "is_idle"]) ?_ rfl rfl)
    refine e_tuple ?_
    walk_at "W__law_due"
    refine pv (v := .bool (decide (n = cu) || !cnagle)) (pv_or ?_ fun _ => pv_one ?_) ?_
    · walk_at "W__law_due"
    · walk_at "W__law_due"
    walk_at "W__law_due"
    intro t2
    refine ⟨_, _, rfl, List.mem_append_right _ (.head _), rfl, ?_⟩
    refine s_more fun _ hx => s_bind 10 hx ?_
    refine s_more fun _ hx => s_bind 9 hx ?_
    refine s_last ?_
    refine J.weak ⟨_, rfl⟩ ?_
    refine x_cons (x_assignF (Str.ofString "ends") 11 ?_)
    refine pv (v := .bool (Cfg.last (⟨cu, cE, cmss, csize, cmost, ccw, casked, cnagle⟩ : Cfg) n && casked)) (pv_and ?_ fun _ => pv_one ?_) ?_
    · walk_at "W__law_due"
    · walk_at "W__law_due"
    refine x_cons (x_assignF (Str.ofString "worth") 12 ?_)
    refine pv (v := .bool (decide (Cfg.many (⟨cu, cE, cmss, csize, cmost, ccw, casked, cnagle⟩ : Cfg) n = cmss) || (((decide (n = cu) || !cnagle) || (Cfg.last (⟨cu, cE, cmss, csize, cmost, ccw, casked, cnagle⟩ : Cfg) n && casked)) && (Cfg.last (⟨cu, cE, cmss, csize, cmost, ccw, casked, cnagle⟩ : Cfg) n || decide (cmost ≤ 2 * Cfg.many (⟨cu, cE, cmss, csize, cmost, ccw, casked, cnagle⟩ : Cfg) n))))) (pv_or ?_ fun _ => pv_one (pv_and (pv_or ?_ fun _ => pv_one ?_) fun _ => pv_one (pv_or ?_ fun _ => pv_one ?_))) ?_
    · walk_at "W__law_due"
    · walk_at "W__law_due"
    · walk_at "W__law_due"
    · walk_at "W__law_due"
    · walk_at "W__law_due"
    rw [worth_eq (c := (⟨cu, cE, cmss, csize, cmost, ccw, casked, cnagle⟩ : Cfg)) i1]
    refine x_cons (x_if ?_)
    refine pt (v := decide (Cfg.many (⟨cu, cE, cmss, csize, cmost, ccw, casked, cnagle⟩ : Cfg) n = 0) || (!(Cfg.go (⟨cu, cE, cmss, csize, cmost, ccw, casked, cnagle⟩ : Cfg) n) || false)) (pt_or ?_ fun _ => pt_or (pt_not ?_) fun _ => pt_or0) ?_
    · walk_at "W__law_due"
    · walk_at "W__law_due"
    refine ⟨fun c2 => ?_, fun c2 => ?_⟩
    · refine x_cons (x_ret ?_)
      walk_at "W__law_due"
      have := i6 [] (.halt c1 (by simpa using c2))
      rw [List.append_nil] at this
      exact h f ts ds this i5
    refine x_nil ?_
    have many0 : Cfg.many (⟨cu, cE, cmss, csize, cmost, ccw, casked, cnagle⟩ : Cfg) n ≠ 0 := by
      intro q; rw [q] at c2; simp at c2
    have go1 : Cfg.go (⟨cu, cE, cmss, csize, cmost, ccw, casked, cnagle⟩ : Cfg) n = true := by
      cases q : Cfg.go (⟨cu, cE, cmss, csize, cmost, ccw, casked, cnagle⟩ : Cfg) n with
      | true => rfl
      | false => rw [q] at c2; simp at c2
    have us0 : 0 ≤ Cfg.usab (⟨cu, cE, cmss, csize, cmost, ccw, casked, cnagle⟩ : Cfg) n := usab_pos
    have mpos : 0 < Cfg.many (⟨cu, cE, cmss, csize, cmost, ccw, casked, cnagle⟩ : Cfg) n := by
      have : 0 ≤ Cfg.many (⟨cu, cE, cmss, csize, cmost, ccw, casked, cnagle⟩ : Cfg) n := by unfold Cfg.many; dsimp only; omega
      omega
    have mle : Cfg.many (⟨cu, cE, cmss, csize, cmost, ccw, casked, cnagle⟩ : Cfg) n ≤ cE - n := by unfold Cfg.many; dsimp only; omega
    have fb := b2i_01 (Cfg.fin (⟨cu, cE, cmss, csize, cmost, ccw, casked, cnagle⟩ : Cfg) n)
    refine x_cons (x_assignF (Str.ofString "has_fin") 13 ?_)
    refine pv (v := .bool ((Cfg.last (⟨cu, cE, cmss, csize, cmost, ccw, casked, cnagle⟩ : Cfg) n && casked) && decide (Cfg.many (⟨cu, cE, cmss, csize, cmost, ccw, casked, cnagle⟩ : Cfg) n < cu + min csize ccw - n))) (pv_and ?_ fun _ => pv_one ?_) ?_
    · walk_at "W__law_due"
    · walk_at "W__law_due"
    rw [fin_eq (c := (⟨cu, cE, cmss, csize, cmost, ccw, casked, cnagle⟩ : Cfg)) mpos]
    refine x_cons (g_expr rfl rfl ?_)
    refine e_append ?_
    walk_at "W__law_due"
    refine ⟨_, _, rfl, List.mem_append_right _ (.head _), ?_⟩
    walk_at "W__law_due"
    refine e_tuple ?_
    walk_at "W__law_due"
    intro t
    refine a_nil ?_
    refine ⟨_, _, σ ++ ((f, .list (ts.map .ref ++ [.ref t])) :: (duT ts ds ++ [(t, .tup [.int (Cfg.many (⟨cu, cE, cmss, csize, cmost, ccw, casked, cnagle⟩ : Cfg) n), .bool (Cfg.fin (⟨cu, cE, cmss, csize, cmost, ccw, casked, cnagle⟩ : Cfg) n)])])), rfl, at_found, by rw [List.length_map]; omega, ?_⟩
    refine x_cons (x_assignF (Str.ofString "at") 4 ?_)
    walk_at "W__law_due"
    refine x_nil ?_
    refine ⟨_, ?_, n + Cfg.many (⟨cu, cE, cmss, csize, cmost, ccw, casked, cnagle⟩ : Cfg) n + b2i (Cfg.fin (⟨cu, cE, cmss, csize, cmost, ccw, casked, cnagle⟩ : Cfg) n), ts ++ [t], ds ++ [(Cfg.many (⟨cu, cE, cmss, csize, cmost, ccw, casked, cnagle⟩ : Cfg) n, Cfg.fin (⟨cu, cE, cmss, csize, cmost, ccw, casked, cnagle⟩ : Cfg) n)], _, _, _, _, _, _, ?_, rfl, rfl, ?_, ?_, fun rest hh => ?_, ?_⟩
    · dsimp only; omega
    · dsimp only; omega
    · simp [i5]
    · simp only [List.length_append, List.length_cons, List.length_nil]; omega
    · rw [List.append_assoc]
      rw [Int.add_assoc] at hh
      exact i6 _ (.step c1 many0 go1 hh)
    · rw [duT_snoc i5, List.map_append]
      rfl
  · have c1' : cE ≤ n := by omega
    have eu : decide (n < cu + min csize ccw) = decide (0 < Cfg.usab (⟨cu, cE, cmss, csize, cmost, ccw, casked, cnagle⟩ : Cfg) n) := by
      rw [decide_eq_decide]; unfold Cfg.usab; dsimp only; omega
    refine x_cons (x_if ?_)
    refine pt (v := casked && (decide (n = cE) && (decide (n < cu + min csize ccw) && true))) (pt_and ?_ fun _ => pt_and ?_ fun _ => pt_and ?_ fun _ => pt_and0) ?_
    · walk_at "W__law_due"
    · walk_at "W__law_due"
    · walk_at "W__law_due"
    rw [eu]
    refine ⟨fun c2 => ?_, fun c2 => ?_⟩
    · have nE : n = cE := by
        simp only [Bool.and_eq_true, decide_eq_true_eq] at c2
        exact c2.2.1
      refine x_cons (g_expr rfl rfl ?_)
      refine e_append ?_
      walk_at "W__law_due"
      refine ⟨_, _, rfl, List.mem_append_right _ (.head _), ?_⟩
      walk_at "W__law_due"
      refine e_tuple ?_
      walk_at "W__law_due"
      intro t
      refine a_nil ?_
      refine ⟨_, _, σ ++ ((f, .list (ts.map .ref ++ [.ref t])) :: (duT ts ds ++ [(t, .tup [.int 0, .bool true])])), rfl, at_found, by rw [List.length_map]; omega, ?_⟩
      refine x_nil ?_
      refine x_cons (x_ret ?_)
      walk_at "W__law_due"
      have := h f (ts ++ [t]) (ds ++ [(0, true)]) (i6 _ (.fin c1' c2)) (by simp [i5])
      rw [duT_snoc i5, List.map_append] at this
      exact this
    · refine x_nil ?_
      refine x_cons (x_ret ?_)
      walk_at "W__law_due"
      have := i6 [] (.done c1' c2)
      rw [List.append_nil] at this
      exact h f ts ds this i5
end
section
variable {D : Dx} {k : Nat} {σ φ : Store} {P : V → Store → Prop}
inductive Chain : Int → List Pc → Int → Prop
  | nil {n} : Chain n [] n
  | cons {n many last fin l n'} : Chain (n + (many + b2i fin)) l n' → Chain n (⟨n, many, last, fin⟩ :: l) n'
def duesOf (pcs : List Pc) : List (Int × Bool) := pcs.map fun p => (p.many, p.fin)
theorem DueR.det {c : Cfg} {n : Int} {a b : List (Int × Bool)} (h : DueR c n a) : DueR c n b → a = b := by
  induction h generalizing b with
  | halt h1 h2 =>
    intro q
    cases q with
    | halt _ _ => rfl
    | step _ h3 h4 _ =>
      rcases h2 with h2 | h2
      · exact absurd h2 h3
      · rw [h4] at h2; cases h2
    | fin h3 _ => omega
    | done h3 _ => omega
  | step h1 h2 h3 _ ih =>
    intro q
    cases q with
    | halt _ h4 =>
      rcases h4 with h4 | h4
      · exact absurd h4 h2
      · rw [h3] at h4; cases h4
    | step _ _ _ q => rw [ih q]
    | fin h3 _ => omega
    | done h3 _ => omega
  | fin h1 h2 =>
    intro q
    cases q with
    | halt h3 _ => omega
    | step h3 _ _ _ => omega
    | fin _ _ => rfl
    | done _ h3 => rw [h2] at h3; cases h3
  | done h1 h2 =>
    intro q
    cases q with
    | halt h3 _ => omega
    | step h3 _ _ _ => omega
    | fin _ h3 => rw [h2] at h3; cases h3
    | done _ _ => rfl
theorem many_le {c : Cfg} {n : Int} : c.many n ≤ c.E - n ∧ c.many n ≤ c.mss := by unfold Cfg.many; omega
theorem many_nn {c : Cfg} {n : Int} (h1 : n ≤ c.E) (h2 : 0 < c.mss) : 0 ≤ c.many n := by
  have := usab_pos (c := c) (n := n)
  unfold Cfg.many; omega
theorem fin_last {c : Cfg} {n : Int} (h : c.fin n = true) : c.many n = c.E - n ∧ c.asked = true := by
  unfold Cfg.fin Cfg.last at h
  simp only [Bool.and_eq_true, decide_eq_true_eq] at h
  exact ⟨h.1, h.2.1⟩
theorem run_law {c : Cfg} (hm : 0 < c.mss) {n : Int} {sent : Bool} {m : Int} {pcs : List Pc} {n' : Int} {s' : Bool} {m' : Int} (h : Run c n sent m pcs n' s' m') : c.u ≤ n → n ≤ c.E + 1 → m = n → sent = decide (n = c.E + 1) →
    DueR c n (duesOf pcs) ∧ m' = n' ∧ s' = decide (n' = c.E + 1) ∧ n' ≤ c.E + 1 ∧ n ≤ n' ∧ (c.asked = false → n ≤ c.E → n' ≤ c.E) ∧ Chain n pcs n' ∧ (∀ p ∈ pcs, c.u ≤ p.at_ ∧ 0 ≤ p.many ∧ p.at_ + p.many ≤ c.E) ∧ (c.nagle = true → c.asked = false → ∀ p ∈ pcs, p.many < c.mss → p.at_ = c.u) := by
  induction h with
  | halt h1 h2 =>
    intro _ _ e1 e2
    exact ⟨.halt h1 h2, e1, e2, by omega, Int.le_refl _, fun _ q => q, .nil, fun _ q => (by cases q), fun _ _ _ q => (by cases q)⟩
  | @step n sent m l n' s' m' h1 h2 h3 _ ih =>
    intro i1 i2 e1 e2
    have a1 := many_le (c := c) (n := n)
    have a2 := many_nn (c := c) (n := n) (by omega) hm
    have a3 := b2i_01 (c.fin n)
    have es : sent = false := by rw [e2]; exact decide_eq_false (by omega)
    have key : (sent || c.fin n) = decide (n + (c.many n + b2i (c.fin n)) = c.E + 1) := by
      rw [es, Bool.false_or]
      cases q : c.fin n with
      | true =>
        have := (fin_last q).1
        have b1 : b2i true = 1 := rfl
        exact (decide_eq_true (by omega)).symm
      | false =>
        have b0 : b2i false = 0 := rfl
        exact (decide_eq_false (by omega)).symm
    have fe : n + (c.many n + b2i (c.fin n)) ≤ c.E + 1 := by omega
    obtain ⟨j1, j2, j3, j4, j5, j6, j7, j8, j9⟩ := ih (by omega) fe (by omega) key
    refine ⟨.step h1 h2 h3 j1, j2, j3, j4, by omega, fun qa _ => j6 qa ?_, .cons j7, ?_, ?_⟩
    · have : c.fin n = false := by
        cases q : c.fin n with
        | false => rfl
        | true => have := (fin_last q).2; rw [qa] at this; cases this
      have b0 : b2i false = 0 := rfl
      rw [this, b0]
      omega
    · intro p hp
      rcases List.mem_cons.mp hp with rfl | hp
      · exact ⟨i1, a2, by dsimp only; omega⟩
      · exact j8 p hp
    · intro qn qa p hp
      rcases List.mem_cons.mp hp with rfl | hp
      · intro hlt
        dsimp only at hlt ⊢
        unfold Cfg.go at h3
        have q1 : decide (c.mss ≤ c.many n) = false := decide_eq_false (by omega)
        rw [q1, qn, qa] at h3
        simp only [Bool.false_and, Bool.not_false, Bool.and_true, Bool.true_and, Bool.false_or, Bool.and_eq_true, Bool.not_eq_true', decide_eq_false_iff_not] at h3
        omega
      · exact j9 qn qa p hp
  | @fin n sent m h1 h2 h3 =>
    intro i1 i2 e1 e2
    have h2' := h2
    unfold Cfg.due at h2
    simp only [Bool.and_eq_true, decide_eq_true_eq] at h2
    obtain ⟨⟨a1, a2⟩, a3⟩ := h2
    have b0 : b2i false = 0 := rfl
    have nE : n = c.E := by omega
    have hdf : (c.asked && (decide (n = c.E) && (decide (0 < c.usab n) && true))) = true := by
      rw [a1, decide_eq_true nE, decide_eq_true h3]; rfl
    refine ⟨.fin h1 hdf, by omega, (decide_eq_true (by omega)).symm, by omega, by omega, fun q _ => (by rw [a1] at q; cases q), ?_, ?_, ?_⟩
    · have := Chain.cons (n := n) (many := 0) (last := false) (fin := true) (l := []) (n' := n + 1) (by have b1 : b2i true = 1 := rfl; rw [b1, Int.zero_add]; exact .nil)
      exact this
    · intro p hp
      cases List.mem_singleton.mp hp
      exact ⟨i1, Int.le_refl _, by dsimp only; omega⟩
    · intro _ q
      rw [a1] at q; cases q
  | @done n sent m h1 h2 =>
    intro i1 i2 e1 e2
    refine ⟨.done h1 ?_, e1, e2, i2, Int.le_refl _, fun _ q => q, .nil, fun _ q => (by cases q), fun _ _ _ q => (by cases q)⟩
    cases qa : c.asked with
    | false => rfl
    | true =>
      by_cases nE : n = c.E
      · rw [decide_eq_true nE, Bool.true_and, Bool.true_and]
        have es : sent = false := by rw [e2]; exact decide_eq_false (by omega)
        have : c.due n sent m = true := by
          unfold Cfg.due
          rw [qa, es]
          have b0 : b2i false = 0 := rfl
          simp only [Bool.false_and, Bool.not_false, Bool.true_and, decide_eq_true_eq]
          omega
        rw [this, Bool.true_and] at h2
        exact h2
      · rw [decide_eq_false nE]; rfl
theorem take_law {u n en mss size most cw : Int} {asked nagle sent : Bool} {len : Nat} (hm : 0 < mss) (hl : (len : Int) = max 0 (en - u)) (h1 : u ≤ n) (h2 : n ≤ en + 1) (hs : sent = decide (n = en + 1)) (h3 : asked = false → n ≤ en)
    {pcs : List Pc} {n' : Int} {s' : Bool} {m' : Int} {ds : List (Int × Bool)} (hr : Run ⟨u, u + len, mss, size, most, cw, asked, nagle⟩ n sent n pcs n' s' m') (hd : DueR ⟨u, en, mss, size, most, cw, asked, nagle⟩ n ds) :
    ds = duesOf pcs ∧ m' = n' ∧ s' = decide (n' = en + 1) ∧ n' ≤ en + 1 ∧ n ≤ n' ∧ (asked = false → n' ≤ en) ∧ Chain n pcs n' ∧ (∀ p ∈ pcs, u ≤ p.at_ ∧ 0 ≤ p.many ∧ p.at_ + p.many ≤ u + len) ∧ (nagle = true → asked = false → ∀ p ∈ pcs, p.many < mss → p.at_ = u) := by
  by_cases c : u ≤ en
  · have eE : u + (len : Int) = en := by omega
    rw [eE] at hr ⊢
    obtain ⟨j1, j2, j3, j4, j5, j6, j7, j8, j9⟩ := run_law (c := ⟨u, en, mss, size, most, cw, asked, nagle⟩) hm hr h1 h2 rfl hs
    exact ⟨hd.det j1, j2, j3, j4, j5, fun q => j6 q (h3 q), j7, j8, j9⟩
  · have en1 : n = en + 1 := by omega
    have un : u = n := by omega
    have l0 : (len : Int) = 0 := by omega
    have es : sent = true := by rw [hs]; exact decide_eq_true en1
    have hds : ds = [] := by
      cases hd with
      | halt _ _ => rfl
      | step q _ _ _ => dsimp only at q; omega
      | fin _ q =>
        simp only [Bool.and_eq_true, decide_eq_true_eq] at q
        omega
      | done _ _ => rfl
    have hq : pcs = [] ∧ n' = n ∧ s' = sent ∧ m' = n := by
      cases hr with
      | halt _ _ => exact ⟨rfl, rfl, rfl, rfl⟩
      | step q _ _ _ => dsimp only at q; omega
      | fin _ q _ =>
        exfalso
        unfold Cfg.due at q
        simp only [es, un, Bool.and_eq_true, Bool.not_eq_true', decide_eq_true_eq] at q
        have q1 := q.1.2
        rw [show decide (n + (len : Int) - n = 0) = true from decide_eq_true (by omega)] at q1
        simp at q1
      | done _ _ => exact ⟨rfl, rfl, rfl, rfl⟩
    obtain ⟨rfl, rfl, rfl, rfl⟩ := hq
    exact ⟨hds, rfl, hs, by omega, Int.le_refl _, h3, .nil, fun _ q => (by cases q), fun _ _ _ q => (by cases q)⟩
end
section
variable {D : Dx} {k : Nat} {σ φ : Store} {P : V → Store → Prop}
local macro_rules | `(tactic| walk_at "N__law_is_held") => `(tactic| first | ((with_reducible first | refine' g_name (Str.ofString "state") 0 ?_ ?_ ?_ | refine' g_name (Str.ofString "left") 1 ?_ ?_ ?_ | refine' g_name (Str.ofString "many") 2 ?_ ?_ ?_); walk_at "NM"))
local macro_rules | `(tactic| walk_at "W__law_is_held") => `(tactic| repeat (first | walk_at "N__law_is_held" | walk_at "W1"))
theorem c_held {st sm : Addr} {iss mss u nx en win wid heard : Int} {asked mixed : Bool} (hm : (st, O.map KB (KBV iss mss u nx en asked win wid heard sm mixed)) ∈ σ)
    (h : P (.bool (!(!decide (nx = u) || (decide (en - nx < 0) || ((decide (en - nx = 0) && (!asked && true)) || false))) && (decide (win = 0) || ((decide (0 < min mss (min (en - nx) win)) && decide (min mss (min (en - nx) win) < mss)) && (!decide (min mss (min (en - nx) win) = en - nx) && decide (2 * min mss (min (en - nx) win) < wid)))))) σ) :
    Cl Sy D (k + 1) (.ref 415) [.ref st] σ P := by
  refine' cl_def [Str.ofString "state"] ?ho ?hc ?hb ?hok ?h
  (case ho => (show List.lookup _ (hd.heap_1 _) = _; k_is)); (case hc => (show codeIn (hd.heap_1 _) _ _ = true; k_is)); (case hok => kernel_rfl); (case hb => (intro s xs _ hx; (first | (obtain ⟨x1, rfl, -⟩ := VRs1 hx) | (obtain ⟨x1, x2, rfl, -⟩ := VRs2 hx) | (obtain ⟨x1, x2, x3, rfl, -⟩ := VRs3 hx) | (obtain ⟨x1, x2, x3, x4, rfl, -⟩ := VRs4 hx) | (obtain ⟨x1, x2, x3, x4, x5, rfl, -⟩ := VRs5 hx)); exact BindsTo.of_eq (by kernel_rfl))); intro L
  refine x_cons (x_assignF (Str.ofString "left") 1 ?_)
  walk_at "W__law_is_held"
  refine x_cons (x_if ?_)
  refine pt (v := !decide (nx = u) || (decide (en - nx < 0) || ((decide (en - nx = 0) && (!asked && true)) || false))) (pt_or ?_ fun _ => pt_or ?_ fun _ => pt_or (pt_and ?_ fun _ => pt_and (pt_not ?_) fun _ => pt_and0) fun _ => pt_or0) ?_
  · walk_at "W__law_is_held"
  · walk_at "W__law_is_held"
  · walk_at "W__law_is_held"
  · walk_at "W__law_is_held"
  refine ⟨fun c1 => ?_, fun c1 => ?_⟩ <;> rw [c1] at h
  · refine x_cons (x_ret ?_)
    walk_at "W__law_is_held"
    exact h
  refine x_nil ?_
  refine x_cons (x_if ?_)
  walk_at "W__law_is_held"
  refine ⟨fun c2 => ?_, fun c2 => ?_⟩ <;> simp only [cmpZ] at c2 <;> rw [c2] at h
  · refine x_cons (x_ret ?_)
    walk_at "W__law_is_held"
    exact h
  refine x_nil ?_
  refine x_cons (x_assignF (Str.ofString "many") 2 ?_)
  walk_at "W__law_is_held"
  refine x_cons (x_ret ?_)
  refine pv (pv_and (a := decide (0 < min mss (min (en - nx) win)) && decide (min mss (min (en - nx) win) < mss)) ?_ fun _ => pv_and (a := !decide (min mss (min (en - nx) win) = en - nx)) ?_ fun _ => pv_one ?_) h
  · refine e_chain ?_
    walk_at "W__law_is_held"
    refine ⟨_, _, mss, rfl, rfl, ?_, rfl, rfl, Pre.rfl⟩
    walk_at "W__law_is_held"
  · walk_at "W__law_is_held"
  · walk_at "W__law_is_held"
def SmOk (mixed : Bool) (u n : Int) (is : List Int) : Prop := (is.length : Int) + 1 ≤ n ∧ (∀ i ∈ is, i < n) ∧ (mixed = false → (is.filter fun i => decide (u ≤ i)).length ≤ 1)
theorem AS_app {x d p pd q qd : Addr} {iss ring mss u n m : Int} {syn asked sent : Bool} {size most : Int} {told : V} {tack room : Int} {held : List UInt8} {φ R : Store} :
    AS x d p pd q qd iss ring mss u n m syn asked sent size most told tack room held φ ++ R = AS x d p pd q qd iss ring mss u n m syn asked sent size most told tack room held (φ ++ R) := rfl
theorem zip_mem {α β γ : Type} {f : α → β → γ} : ∀ {ts : List α} {ps : List β} {j : Nat} (h1 : j < ts.length) (h2 : j < ps.length), f ts[j] ps[j] ∈ List.zipWith f ts ps
  | _ :: _, _ :: _, 0, _, _ => .head _
  | _ :: _, _ :: _, j + 1, h1, h2 => .tail _ (zip_mem (j := j) (Nat.lt_of_succ_lt_succ h1) (Nat.lt_of_succ_lt_succ h2))
theorem duT_pairs {τ : Store} {ts : List Addr} {ds : List (Int × Bool)} (hl : ts.length = ds.length) (h : ∀ z ∈ duT ts ds, z ∈ τ) : PairL τ (ts.map .ref) ds := by
  refine ⟨by rw [List.length_map, hl], fun i p hp => ?_⟩
  have hi := nth_lt hp
  rw [nth_of_lt hi] at hp
  cases hp
  have hi' : i < ts.length := by omega
  refine ⟨ts[i], by rw [nth_get]; simp [hi'], h _ ?_⟩
  exact zip_mem (f := fun t (p : Int × Bool) => (t, O.tup [.int p.1, .bool p.2])) hi' hi
theorem sub_mid {A B : Store} {z : Addr × O} : Sub ((A ++ [z]) ++ B) ((A ++ B) ++ [z]) := by
  refine ⟨[], ?_⟩
  rw [List.append_nil, List.append_assoc, List.append_assoc]
  exact .append_left _ List.perm_append_comm
theorem octs_len {held : List UInt8} {u : Int} {pc : Pc} (h1 : u ≤ pc.at_) (h2 : 0 ≤ pc.many) (h3 : pc.at_ + pc.many ≤ u + held.length) : ((octs held u pc).length : Int) = pc.many := by
  unfold octs bcut
  simp only [clipN]
  obtain ⟨a, ha⟩ := Int.eq_ofNat_of_zero_le (show 0 ≤ pc.at_ - u by omega)
  obtain ⟨b, hb⟩ := Int.eq_ofNat_of_zero_le h2
  rw [ha, hb, show (a : Int) + (b : Int) = ((a + b : Nat) : Int) by push_cast; rfl, PySem.clipAt_nat, PySem.clipAt_nat, List.length_take, List.length_drop]
  omega
theorem run_len {c : Cfg} (hm : 0 < c.mss) {n : Int} {sent : Bool} {m : Int} {pcs : List Pc} {n' : Int} {s' : Bool} {m' : Int} (h : Run c n sent m pcs n' s' m') : (pcs.length : Int) ≤ n' - n := by
  induction h with
  | halt _ _ => simp
  | @step n sent m l n' sent' m' h1 h2 _ _ ih =>
    have a1 := many_nn (c := c) (n := n) (by omega) hm
    have a2 := b2i_01 (c.fin n)
    simp only [List.length_cons]
    push_cast
    omega
  | fin _ _ _ => simp only [List.length_cons, List.length_nil]; omega
  | done _ _ => simp
theorem chain_cons {n : Int} {p : Pc} {l : List Pc} {n' : Int} (h : Chain n (p :: l) n') : p.at_ = n ∧ Chain (n + (p.many + b2i p.fin)) l n' := by
  cases h with
  | cons h => exact ⟨rfl, h⟩
theorem chain_le {n : Int} {l : List Pc} {n' : Int} (h : Chain n l n') : (∀ p ∈ l, 0 ≤ p.many) → n ≤ n' := by
  induction h with
  | nil => intro _; exact Int.le_refl _
  | @cons n many last fin l n' _ ih =>
    intro q
    have a := q _ (.head _)
    have b := b2i_01 fin
    have c := ih fun p hp => q p (.tail _ hp)
    dsimp only at a
    omega
theorem chain_nil {n n' : Int} (h : Chain n [] n') : n = n' := by cases h; rfl
theorem sm_keep {mixed : Bool} {u n n' : Int} {is : List Int} (h : SmOk mixed u n is) (hn : n ≤ n') : SmOk mixed u n' is := ⟨by have := h.1; omega, fun i hi => by have := h.2.1 i hi; omega, h.2.2⟩
theorem sm_add {mixed : Bool} {u n n' : Int} {is : List Int} (h : SmOk mixed u n is) (hn : n < n') (hu : mixed = false → n = u) : SmOk mixed u n' (is ++ [n]) := by
  refine ⟨?_, fun i hi => ?_, fun hm => ?_⟩
  · have := h.1
    rw [List.length_append]
    simp only [List.length_cons, List.length_nil]
    push_cast
    omega
  · rcases List.mem_append.mp hi with hi | hi
    · have := h.2.1 i hi; omega
    · cases List.mem_singleton.mp hi; exact hn
  · have e := hu hm
    have : is.filter (fun i => decide (u ≤ i)) = [] := List.filter_eq_nil_iff.mpr fun i hi => by
      have := h.2.1 i hi
      simp only [decide_eq_true_eq]; omega
    rw [List.filter_append, this, List.nil_append]
    exact List.length_filter_le _ _
end
section
variable {D : Dx} {k : Nat} {σ φ : Store} {P : V → Store → Prop}
local macro_rules | `(tactic| walk_at "N_comp1") => `(tactic| first | ((with_reducible first | refine' g_name (Str.ofString ".0") 0 ?_ ?_ ?_ | refine' g_name (Str.ofString "seq") 1 ?_ ?_ ?_ | refine' g_name (Str.ofString "octets") 2 ?_ ?_ ?_ | refine' g_name (Str.ofString "has_push") 3 ?_ ?_ ?_ | refine' g_name (Str.ofString "has_fin") 4 ?_ ?_ ?_); walk_at "NM"))
local macro_rules | `(tactic| walk_at "W_comp1") => `(tactic| repeat (first | walk_at "N_comp1" | walk_at "W1"))
local macro_rules | `(tactic| walk_at "N__law_take_pieces") => `(tactic| first | ((with_reducible first | refine' g_name (Str.ofString "sender") 0 ?_ ?_ ?_ | refine' g_name (Str.ofString "state") 1 ?_ ?_ ?_ | refine' g_name (Str.ofString "congestion") 2 ?_ ?_ ?_ | refine' g_name (Str.ofString "is_nagle") 3 ?_ ?_ ?_ | refine' g_name (Str.ofString "due") 4 ?_ ?_ ?_ | refine' g_name (Str.ofString "told") 5 ?_ ?_ ?_ | refine' g_name (Str.ofString "seq") 6 ?_ ?_ ?_ | refine' g_name (Str.ofString "octets") 7 ?_ ?_ ?_ | refine' g_name (Str.ofString "has_push") 8 ?_ ?_ ?_ | refine' g_name (Str.ofString "has_fin") 9 ?_ ?_ ?_); walk_at "NM"))
local macro_rules | `(tactic| walk_at "W__law_take_pieces") => `(tactic| repeat (first | walk_at "N__law_take_pieces" | walk_at "W1"))
theorem c_take_pieces {x d p pd q qd src st sm : Addr} {iss mss u n en win wid heard room tack cw : Int} {told : V} {asked mixed sent nagle : Bool} {held : List UInt8} {so : O} {is : List Int} (hm : 0 < mss) (hm2 : mss ≤ 1000) (hl : (held.length : Int) = max 0 (en - u)) (hen : en - u ≤ 60) (hen2 : en ≤ 900) (hu : 0 ≤ u)
    (h1 : u ≤ n) (h2 : n ≤ en + 1) (hs : sent = decide (n = en + 1)) (h3 : asked = false → n ≤ en) (hsm : SmOk mixed u n is) (hmx : mixed = false → nagle = true)
    (h : ∀ n' is', u ≤ n' → n' ≤ en + 1 → (asked = false → n' ≤ en) → SmOk mixed u n' is' →
      P (.bool true) (AS x d p pd q qd iss 512 mss u n' n' false asked (decide (n' = en + 1)) win wid told tack room held ((src, so) :: (st, .map KB (KBV iss mss u n' en asked win wid heard sm mixed)) :: (sm, .list (is'.map .int)) :: φ))) :
    Cl Sy D (k + 7) (.ref 408) [.ref x, .ref st, .int cw, .bool nagle] (AS x d p pd q qd iss 512 mss u n n false asked sent win wid told tack room held ((src, so) :: (st, .map KB (KBV iss mss u n en asked win wid heard sm mixed)) :: (sm, .list (is.map .int)) :: φ)) P := by
  refine' cl_def [Str.ofString "sender", Str.ofString "state", Str.ofString "congestion", Str.ofString "is_nagle"] ?ho ?hc ?hb ?hok ?h
  (case ho => (show List.lookup _ (hd.heap_1 _) = _; k_is)); (case hc => (show codeIn (hd.heap_1 _) _ _ = true; k_is)); (case hok => kernel_rfl); (case hb => (intro s xs _ hx; (first | (obtain ⟨x1, rfl, -⟩ := VRs1 hx) | (obtain ⟨x1, x2, rfl, -⟩ := VRs2 hx) | (obtain ⟨x1, x2, x3, rfl, -⟩ := VRs3 hx) | (obtain ⟨x1, x2, x3, x4, rfl, -⟩ := VRs4 hx) | (obtain ⟨x1, x2, x3, x4, x5, rfl, -⟩ := VRs5 hx)); exact BindsTo.of_eq (by kernel_rfl))); intro L
  refine x_cons (x_tupS (names := [Str.ofString "due", Str.ofString "told"]) ?_ rfl rfl)
  refine e_tuple ?_
  walk_at "W__law_take_pieces"
  refine c_due (c := ⟨u, en, mss, win, wid, cw, asked, nagle⟩) (st := st) (sm := sm) (iss := iss) (nx := n) (heard := heard) (mixed := mixed) (.tail _ (.tail _ (.tail _ (.tail _ (.tail _ (.tail _ (.tail _ (.head _)))))))) h1 (by dsimp only; omega) (by dsimp only; omega) hm fun f ts ds hd hlt => ?_
  rw [AS_app]
  walk_at "W__law_take_pieces"
  refine c_pieces (c := ⟨u, u + held.length, mss, win, wid, cw, asked, nagle⟩) (by decide) h1 (Int.le_refl _) (by dsimp only; omega) (by dsimp only; omega) (by omega) hm rfl rfl rfl rfl rfl rfl rfl fun f2 ts2 pcs n' s' m' hr hlt2 => ?_
  obtain ⟨e1, e2, e3, j4, j5, j6, jc, j8, j9⟩ := take_law hm hl h1 h2 hs h3 hr hd
  subst e1 e2 e3
  walk_at "W__law_take_pieces"
  intro t0
  refine ⟨_, _, rfl, List.mem_append_right _ (.head _), rfl, ?_⟩
  refine s_more fun _ hx => s_bind 5 hx ?_
  refine s_more fun _ hx => s_bind 4 hx ?_
  refine s_last ?_
  refine J.weak ⟨_, rfl⟩ ?_
  refine x_cons (x_if ?_)
  refine t_cmpG ?_
  refine e_comp [] ?_
  walk_at "W__law_take_pieces"
  have lenD : (duesOf pcs).length = pcs.length := by unfold duesOf; rw [List.length_map]
  have hpl := run_len hm hr
  refine .inl ⟨f2, ts2.map .ref, fun j => (nth (ts2.map V.ref) j).getD .none, rfl, ?_, ?_, ?_, ?_⟩
  · exact .tail _ (.tail _ (.tail _ (.tail _ (.tail _ (.tail _ (List.mem_append_right _ (.head _)))))))
  · rw [List.length_map]; omega
  · intro j hj
    show nth (ts2.map V.ref) j = some ((nth (ts2.map V.ref) j).getD .none)
    rw [nth_of_lt hj]; rfl
  have tm : ∀ j (h1 : j < ts2.length) (h2 : j < pcs.length), tup1 iss 512 u held ts2[j] pcs[j] ∈ tups iss 512 u held ts2 pcs := fun j h1 h2 => zip_mem h1 h2
  generalize hT : tups iss 512 u held ts2 pcs = T at tm ⊢
  generalize hd2 : (duT ts (duesOf pcs)) = TD at ⊢
  refine ⟨fun j done lc σ' => ∃ ws v0 v1 v2 v3 v4, ws.length = j ∧ done = ws.map V.ref ∧ lc = [v0, v1, v2, v3, v4, none, none] ∧ σ' = (AS x d p pd q qd iss 512 mss u m' m' false asked (decide (m' = en + 1)) win wid told tack room held ((src, so) :: (st, O.map KB (KBV iss mss u n en asked win wid heard sm mixed)) :: (sm, O.list (is.map .int)) :: φ ++ ((f, O.list (ts.map .ref)) :: TD) ++ ((f2, O.list (ts2.map .ref)) :: T))) ++ duT ws ((duesOf pcs).take j), ?_, ?_, ?_, ?_⟩
  · exact ⟨[], _, _, _, _, _, rfl, rfl, rfl, by simp [duT]⟩
  · rintro j done lc σ' ⟨ws, v0, v1, v2, v3, v4, _, _, _, rfl⟩
    exact List.mem_append_left _ (.tail _ (.tail _ (.tail _ (.tail _ (.tail _ (.tail _ (List.mem_append_right _ (.head _))))))))
  · rintro j done lc σ' it a C hj ⟨ws, v0, v1, v2, v3, v4, hw, rfl, rfl, rfl⟩ y hy
    have hj1 : j < ts2.length := by simpa using hj
    have hj2 : j < pcs.length := by omega
    have ey : (nth (ts2.map V.ref) j).getD .none = .ref ts2[j] := by rw [nth_of_lt hj]; simp
    dsimp only at hy
    rw [ey] at hy
    cases (show y = .ref ts2[j] from hy)
    have hmj := tm j hj1 hj2
    obtain ⟨b1, b2, b3⟩ := j8 pcs[j] (List.getElem_mem hj2)
    have hol := octs_len b1 b2 b3
    refine s_tup (List.mem_append_left _ (List.mem_append_left _ (.tail _ (.tail _ (.tail _ (.tail _ (.tail _ (.tail _ (List.mem_append_right _ (.tail _ hmj))))))))) ) ?_
    refine s_more fun _ hx => s_name 1 hx ?_
    refine s_more fun _ hx => s_name 2 hx ?_
    refine s_more fun _ hx => s_name 3 hx ?_
    refine s_more fun _ hx => s_name 4 hx ?_
    refine s_last ?_
    refine t_none ⟨fun _ => ?_, fun q => nomatch q⟩
    refine e_tuple ?_
    ((with_reducible refine g_cons ?_ ?_); (· rfl))
    walk_at "W_comp1"
    intro w
    have hjd : j < (duesOf pcs).length := by omega
    have ed : (duesOf pcs).take (j + 1) = (duesOf pcs).take j ++ [(((octs held u pcs[j]).length : Int), pcs[j].fin)] := by
      rw [List.take_add_one, List.getElem?_eq_getElem hjd, hol, show (duesOf pcs)[j] = (pcs[j].many, pcs[j].fin) from List.getElem_map ..]
      rfl
    refine ⟨_, ?_, ws ++ [w], _, _, _, _, _, by simp [hw], by simp, rfl, rfl⟩
    rw [ed, duT_snoc (by rw [List.length_take]; omega), ← List.append_assoc]
    exact sub_mid
  rintro done lc σ' a ⟨ws, v0, v1, v2, v3, v4, hw, rfl, _, rfl⟩
  have hw' : ws.length = pcs.length := by rw [hw, List.length_map]; omega
  have etk : (duesOf pcs).take (ts2.map V.ref).length = duesOf pcs := List.take_of_length_le (by rw [List.length_map]; omega)
  rw [etk]
  walk_at "W__law_take_pieces"
  refine fun _ _ hx hy => c_nel (ps := duesOf pcs) (qs := duesOf pcs) (us := ws.map .ref) (ws := ts.map .ref) (List.mem_append_right _ (.head _)) ?_ (duT_pairs (by omega) fun z hz => List.mem_append_left _ (List.mem_append_right _ hz)) (duT_pairs hlt fun z hz => ?_) ?_ hx hy
  · exact List.mem_append_left _ (List.mem_append_left _ (.tail _ (.tail _ (.tail _ (.tail _ (.tail _ (.tail _ (List.mem_append_left _ (List.mem_append_right _ (.head _))))))))))
  · rw [hd2] at hz
    exact List.mem_append_left _ (List.mem_append_left _ (.tail _ (.tail _ (.tail _ (.tail _ (.tail _ (.tail _ (List.mem_append_left _ (List.mem_append_right _ (.tail _ hz))))))))))
  rw [show (!decide (duesOf pcs = duesOf pcs)) = false by simp]
  refine ⟨_, rfl, fun q => (nomatch q), fun _ => ?_⟩
  refine x_nil ?_
  refine J.weak (σ := AS x d p pd q qd iss 512 mss u m' m' false asked (decide (m' = en + 1)) win wid told tack room held ((src, so) :: (st, O.map KB (KBV iss mss u n en asked win wid heard sm mixed)) :: (sm, O.list (is.map .int)) :: (φ ++ ((f, O.list (ts.map .ref)) :: TD) ++ ((f2, O.list (ts2.map .ref)) :: T)))) ⟨duT ws (duesOf pcs) ++ _, by rw [← List.append_assoc]; rfl⟩ ?_
  clear etk hw hw' hx hy
  refine x_cons (x_forL ?_)
  walk_at "W__law_take_pieces"
  refine ⟨f2, ts2.map V.ref, rfl, fun j l σ' => ∃ nj is' w1 w2 w3 w4, Chain nj (pcs.drop j) m' ∧ n ≤ nj ∧ SmOk mixed u nj is' ∧ l = [some (.ref x), some (.ref st), some (.int cw), some (.bool nagle), some (.ref f), some (.ref f2), w1, w2, w3, w4, none, none, none] ∧
    σ' = AS x d p pd q qd iss 512 mss u m' m' false asked (decide (m' = en + 1)) win wid told tack room held ((src, so) :: (st, O.map KB (KBV iss mss u nj en asked win wid heard sm mixed)) :: (sm, O.list (is'.map .int)) :: (φ ++ ((f, O.list (ts.map .ref)) :: TD) ++ ((f2, O.list (ts2.map .ref)) :: T))), ?_, ?_, ?_, ?_, ?_⟩
  · exact .tail _ (.tail _ (.tail _ (.tail _ (.tail _ (.tail _ (.tail _ (.tail _ (.tail _ (List.mem_append_right _ (.head _))))))))))
  · exact ⟨n, is, _, _, _, _, jc, Int.le_refl _, hsm, rfl, rfl⟩
  · rintro j l σ' ⟨nj, is', w1, w2, w3, w4, _, _, _, _, rfl⟩
    exact .tail _ (.tail _ (.tail _ (.tail _ (.tail _ (.tail _ (.tail _ (.tail _ (.tail _ (List.mem_append_right _ (.head _))))))))))
  · rintro j l σ' it hj ⟨nj, is', w1, w2, w3, w4, hc, hnj, hsmj, rfl, rfl⟩ v hv y hy
    have hj1 : j < ts2.length := by simpa using hj
    have hj2 : j < pcs.length := by omega
    have ev : v = .ref ts2[j] := by rw [nth_of_lt hj] at hv; simpa using hv.symm
    subst ev
    cases (show y = .ref ts2[j] from hy)
    have hmj := tm j hj1 hj2
    obtain ⟨b1, b2, b3⟩ := j8 pcs[j] (List.getElem_mem hj2)
    have hol := octs_len b1 b2 b3
    have hfb := b2i_01 pcs[j].fin
    rw [List.drop_eq_getElem_cons hj2] at hc
    obtain ⟨hat, hch2⟩ := chain_cons hc
    have hsl := hsmj.1
    have hcb : nj ≤ m' := Int.le_trans (by omega) (chain_le hch2 fun p hp => (j8 p (List.mem_of_mem_drop hp)).2.1)
    refine s_tup (List.mem_append_left _ (.tail _ (.tail _ (.tail _ (.tail _ (.tail _ (.tail _ (.tail _ (.tail _ (.tail _ (List.mem_append_right _ (.tail _ hmj))))))))))) ) ?_
    refine s_more fun _ hx => s_name 6 hx ?_
    refine s_more fun _ hx => s_name 7 hx ?_
    refine s_more fun _ hx => s_name 8 hx ?_
    refine s_more fun _ hx => s_name 9 hx ?_
    refine s_last ?_
    refine x_cons (x_if ?_)
    walk_at "W__law_take_pieces"
    rw [hat]
    refine ⟨fun q => absurd q (by simp [cmpZ]), fun _ => ?_⟩
    refine x_nil ?_
    refine x_cons (x_if ?_)
    refine pt (v := (decide (0 < ((octs held u pcs[j]).length : Int)) && decide (((octs held u pcs[j]).length : Int) < mss)) && (!asked && true)) (pt_and ?_ fun _ => pt_and (pt_not ?_) fun _ => pt_and0) ?_
    · refine t_chain ?_
      walk_at "W__law_take_pieces"
      refine ⟨_, _, mss, rfl, rfl, ?_, rfl, rfl, Pre.rfl⟩
      walk_at "W__law_take_pieces"
    · walk_at "W__law_take_pieces"
    refine ⟨fun c1 => ?_, fun c1 => ?_⟩
    · simp only [Bool.and_true, Bool.and_eq_true, decide_eq_true_eq, Bool.not_eq_true'] at c1
      refine x_cons (g_expr rfl rfl ?_)
      refine e_append ?_
      walk_at "W__law_take_pieces"
      refine ⟨_, _, rfl, (by walk_at "MEM"), ?_⟩
      walk_at "W__law_take_pieces"
      refine ⟨_, is'.map .int, _, rfl, .tail (.tail (.tail (.tail (.tail (.tail (.tail (.tail .head))))))), by rw [List.length_map]; omega, ?_⟩
      rw [show is'.map V.int ++ [V.int nj] = (is' ++ [nj]).map V.int by rw [List.map_append]; rfl]
      refine x_nil ?_
      refine x_cons (x_setitem ?_)
      walk_at "W__law_take_pieces"
      intro y hy
      walk_at "W__law_take_pieces"
      refine st_map hy (atM (by walk_at "KA") rfl (.tail (.tail (.tail (.tail (.tail (.tail (.tail .head)))))))) (by decide) ?_
      refine x_nil ?_
      refine ⟨AS x d p pd q qd iss 512 mss u m' m' false asked (decide (m' = en + 1)) win wid told tack room held ((src, so) :: (st, O.map KB (KBV iss mss u (nj + (octs held u pcs[j]).length + b2i pcs[j].fin) en asked win wid heard sm mixed)) :: (sm, O.list ((is' ++ [nj]).map .int)) :: (φ ++ ((f, O.list (ts.map .ref)) :: TD) ++ ((f2, O.list (ts2.map .ref)) :: T))), Sub.rfl, _, (is' ++ [nj]), _, _, _, _, ?_, ?_, ?_, rfl, rfl⟩
      · rw [hol, Int.add_assoc]; exact hch2
      · omega
      · rw [hol]
        exact sm_add hsmj (by omega) fun hmf => by rw [← hat]; exact j9 (hmx hmf) c1.2 _ (List.getElem_mem hj2) (by omega)
    · refine x_nil ?_
      refine x_cons (x_setitem ?_)
      walk_at "W__law_take_pieces"
      intro y hy
      walk_at "W__law_take_pieces"
      refine st_map hy (atM (by walk_at "KA") rfl (.tail (.tail (.tail (.tail (.tail (.tail (.tail .head)))))))) (by decide) ?_
      refine x_nil ?_
      refine ⟨AS x d p pd q qd iss 512 mss u m' m' false asked (decide (m' = en + 1)) win wid told tack room held ((src, so) :: (st, O.map KB (KBV iss mss u (nj + (octs held u pcs[j]).length + b2i pcs[j].fin) en asked win wid heard sm mixed)) :: (sm, O.list (is'.map .int)) :: (φ ++ ((f, O.list (ts.map .ref)) :: TD) ++ ((f2, O.list (ts2.map .ref)) :: T))), Sub.rfl, _, is', _, _, _, _, ?_, ?_, ?_, rfl, rfl⟩
      · rw [hol, Int.add_assoc]; exact hch2
      · omega
      · rw [hol]
        exact sm_keep hsmj (by omega)
  · rintro l σ' ⟨nj, is', w1, w2, w3, w4, hc, hnj, hsmj, rfl, rfl⟩
    rw [List.length_map, hlt2, List.drop_length] at hc
    have := chain_nil hc
    subst this
    refine J.weak (σ := AS x d p pd q qd iss 512 mss u nj nj false asked (decide (nj = en + 1)) win wid told tack room held ((src, so) :: (st, O.map KB (KBV iss mss u nj en asked win wid heard sm mixed)) :: (sm, O.list (is'.map .int)) :: φ)) ⟨((f, O.list (ts.map .ref)) :: TD) ++ ((f2, O.list (ts2.map .ref)) :: T), by simp only [List.cons_append, List.append_assoc]⟩ ?_
    refine x_cons (x_ret ?_)
    walk_at "W__law_take_pieces"
    exact h nj is' (by omega) j4 j6 hsmj
end
section
variable {D : Dx} {k : Nat} {σ φ : Store} {P : V → Store → Prop}
structure TOk (mixed asked : Bool) (u n en heard : Int) (told : V) (held : List UInt8) (is : List Int) (top : Int) : Prop where
  h0 : 1 ≤ u
  hun : u ≤ n
  hne : n ≤ en + 1
  hna : asked = false → n ≤ en
  hl : (held.length : Int) = max 0 (en - u)
  h60 : en - u ≤ 60
  htop : en ≤ top
  hsm : SmOk mixed u n is
  htold : told = .none ∨ told = .int heard
theorem probe_law {u n en mss win wid len : Int} {asked : Bool} (hl : len = max 0 (en - u)) (h1 : u ≤ n) (h2 : n ≤ en + 1) :
    ((!(false || (decide (0 < n - u) || false)) && (decide (0 < len - min len (max 0 (n - u - b2i false))) || (asked && !(decide (n = en + 1) && !false && decide (len = 0) && decide (u = n)) && decide (n - u ≤ len + b2i false)))) && (decide (win = 0) || (decide (0 < min mss (min (len - min len (max 0 (n - u - b2i false))) win)) &&
      !(decide (mss ≤ min mss (min (len - min len (max 0 (n - u - b2i false))) win)) || (!(true && (decide (0 < n - u) && (!(asked && (decide (min mss (min (len - min len (max 0 (n - u - b2i false))) win) = (len - min len (max 0 (n - u - b2i false)))) && true)) && true))) && (decide (min mss (min (len - min len (max 0 (n - u - b2i false))) win) = (len - min len (max 0 (n - u - b2i false)))) || decide (wid ≤ 2 * min mss (min (len - min len (max 0 (n - u - b2i false))) win))))))))
    = (!(!decide (n = u) || (decide (en - n < 0) || ((decide (en - n = 0) && (!asked && true)) || false))) && (decide (win = 0) || ((decide (0 < min mss (min (en - n) win)) && decide (min mss (min (en - n) win) < mss)) && (!decide (min mss (min (en - n) win) = en - n) && decide (2 * min mss (min (en - n) win) < wid))))) := by
  have b0 : b2i false = 0 := rfl
  rw [b0]
  by_cases c : n = u
  · subst c
    have e : len - min len (max 0 (n - n - 0)) = len := by omega
    rw [e]
    have c1 : decide (0 < n - n) = false := by simp
    have c2 : decide (n = n) = true := by simp
    rw [c1, c2]
    rcases Int.lt_trichotomy (en - n) 0 with g | g | g
    · have : len = 0 := by omega
      subst this
      have e1 : n = en + 1 := by omega
      have d1 : decide (n = en + 1) = true := by simp [e1]
      have d2 : decide (en - n < 0) = true := by simp; omega
      rw [d1, d2]
      simp
    · have : len = 0 := by omega
      subst this
      have d1 : decide (n = en + 1) = false := by simp; omega
      have d2 : decide (en - n < 0) = false := by simp; omega
      have d3 : decide (en - n = 0) = true := by simp; omega
      have d4 : decide (n - n ≤ 0 + 0) = true := by simp
      have d5 : decide (0 < min mss (min 0 win)) = false := by simp; omega
      have d6 : decide (0 < min mss (min (en - n) win)) = false := by simp; omega
      rw [d1, d2, d3, d4, d5, d6]
      simp
    · have e1 : len = en - n := by omega
      subst e1
      have d1 : decide (0 < en - n) = true := by simp; omega
      have d2 : decide (en - n < 0) = false := by simp; omega
      have d3 : decide (en - n = 0) = false := by simp; omega
      rw [d1, d2, d3]
      simp only [Bool.false_or, Bool.not_false, Bool.true_and, Bool.not_true, Bool.false_and, Bool.true_or, Bool.and_true, Bool.or_false]
      generalize min mss (min (en - n) win) = M
      congr 1
      rw [Bool.eq_iff_iff]
      simp only [Bool.and_eq_true, Bool.not_eq_true', Bool.or_eq_false_iff, decide_eq_true_eq, decide_eq_false_iff_not]
      omega
  · have e1 : decide (0 < n - u) = true := by simp; omega
    have e2 : decide (n = u) = false := by simp [c]
    rw [e1, e2]
    simp
theorem bcut_to {z : List UInt8} {t : Int} (h0 : 0 ≤ t) (h1 : t ≤ z.length) : ((bcut z .none (.int t)).length : Int) = t := by
  unfold bcut
  simp only [clipN]
  obtain ⟨b, hb⟩ := Int.eq_ofNat_of_zero_le h0
  rw [hb, PySem.clipAt_nat, List.length_take, List.length_drop]
  omega
theorem bcut_from {z : List UInt8} {t : Int} (h0 : 0 ≤ t) (h1 : t ≤ z.length) : ((bcut z (.int t) .none).length : Int) = z.length - t := by
  unfold bcut
  simp only [clipN]
  obtain ⟨b, hb⟩ := Int.eq_ofNat_of_zero_le h0
  rw [hb, PySem.clipAt_nat, List.length_take, List.length_drop]
  omega
theorem sm_up {mixed : Bool} {u a n : Int} {is : List Int} (h : SmOk mixed u n is) (hu : u ≤ a) : SmOk mixed a n is := by
  refine ⟨h.1, h.2.1, fun hm => ?_⟩
  have e : is.filter (fun i => decide (a ≤ i)) = (is.filter fun i => decide (u ≤ i)).filter fun i => decide (a ≤ i) := by
    rw [List.filter_filter]
    refine List.filter_congr fun i _ => ?_
    rw [Bool.eq_iff_iff]
    simp only [Bool.and_eq_true, decide_eq_true_eq]
    omega
  rw [e]
  exact Nat.le_trans (List.length_filter_le _ _) (h.2.2 hm)
local macro_rules | `(tactic| walk_at "N_comp2") => `(tactic| first | ((with_reducible first | refine' g_name (Str.ofString ".0") 0 ?_ ?_ ?_ | refine' g_name (Str.ofString "at") 1 ?_ ?_ ?_); walk_at "NM") | ((with_reducible refine' g_cell (Str.ofString "state") ?hk ?hs ?hd ?hc ?hm ?h); (case hk => kernel_rfl); (case hs => rfl); (case hd => kernel_rfl); (case hc => rfl); (case hm => walk_at "MEM")))
local macro_rules | `(tactic| walk_at "W_comp2") => `(tactic| repeat (first | walk_at "N_comp2" | walk_at "W1"))
local macro_rules | `(tactic| walk_at "N__law_turn_right") => `(tactic| first | ((with_reducible first | refine' g_name (Str.ofString "source") 0 ?_ ?_ ?_ | refine' g_name (Str.ofString "sender") 1 ?_ ?_ ?_ | refine' g_name (Str.ofString "way") 3 ?_ ?_ ?_ | refine' g_name (Str.ofString "octets") 4 ?_ ?_ ?_ | refine' g_name (Str.ofString "congestion") 5 ?_ ?_ ?_ | refine' g_name (Str.ofString "is_nagle") 6 ?_ ?_ ?_ | refine' g_name (Str.ofString "ack") 7 ?_ ?_ ?_ | refine' g_name (Str.ofString "small") 8 ?_ ?_ ?_); walk_at "NM") | ((with_reducible refine' g_cell (Str.ofString "state") ?hk ?hs ?hd ?hc ?hm ?h); (case hk => kernel_rfl); (case hs => rfl); (case hd => kernel_rfl); (case hc => rfl); (case hm => walk_at "MEM")))
local macro_rules | `(tactic| walk_at "W__law_turn_right") => `(tactic| repeat (first | walk_at "N__law_turn_right" | walk_at "W1"))
theorem c_turn {x d p pd q qd src st sm : Addr} {iss mss u n en win wid heard tack a b top : Int} {told : V} {asked mixed : Bool} {held : List UInt8} {is : List Int} (hm : 2 ≤ mss) (hm2 : mss ≤ 9) (htop : top + 20 ≤ 900)
    (ok : TOk mixed asked u n en heard told held is top)
    (h : ∀ (u n en win wid heard tack a b : Int) (told : V) (asked : Bool) (held : List UInt8) (is : List Int), TOk mixed asked u n en heard told held is (top + 20) → P (.bool true) (AS x d p pd q qd iss 512 mss u n n false asked (decide (n = en + 1)) win wid told tack 60 held ((src, .list [.int a, .int b]) :: (st, .map KB (KBV iss mss u n en asked win wid heard sm mixed)) :: (sm, .list (is.map .int)) :: φ))) :
    Cl Sy D (k + 10) (.ref 420) [.ref src, .ref x, .ref st] (AS x d p pd q qd iss 512 mss u n n false asked (decide (n = en + 1)) win wid told tack 60 held ((src, .list [.int a, .int b]) :: (st, .map KB (KBV iss mss u n en asked win wid heard sm mixed)) :: (sm, .list (is.map .int)) :: φ)) P := by
  refine Cl.outS ?_
  refine' cl_defC [Str.ofString "source", Str.ofString "sender", Str.ofString "state"] (Str.ofString "state") 2 (.ref st) ?ho ?hc ?hb ?hok rfl rfl ?h
  (case ho => (show List.lookup _ (hd.heap_1 _) = _; k_is)); (case hc => (show codeIn (hd.heap_1 _) _ _ = true; k_is)); (case hok => kernel_rfl); (case hb => (intro s xs _ hx; (first | (obtain ⟨x1, rfl, -⟩ := VRs1 hx) | (obtain ⟨x1, x2, rfl, -⟩ := VRs2 hx) | (obtain ⟨x1, x2, x3, rfl, -⟩ := VRs3 hx) | (obtain ⟨x1, x2, x3, x4, rfl, -⟩ := VRs4 hx) | (obtain ⟨x1, x2, x3, x4, x5, rfl, -⟩ := VRs5 hx)); exact BindsTo.of_eq (by kernel_rfl))); intro L
  refine ex_l (l' := [some (.ref src), some (.ref x), none, none, none, none, none, none, none, none, none, none, none, none, none, none, none]) rfl ?_
  obtain ⟨ψ, hψ⟩ : ∃ ψ, ψ = φ ++ [(L + 1, O.cell (V.ref st))] := ⟨_, rfl⟩
  have hcell : (L + 1, O.cell (V.ref st)) ∈ ψ := by rw [hψ]; exact List.mem_append_right _ (.head _)
  refine J.sub (σ := (AS x d p pd q qd iss 512 mss u n n false asked (decide (n = en + 1)) win wid told tack 60 held ((src, .list [.int a, .int b]) :: (st, .map KB (KBV iss mss u n en asked win wid heard sm mixed)) :: (sm, .list (is.map .int)) :: ψ))) ⟨[], by rw [hψ, List.append_nil]; exact List.Perm.refl _⟩ ?_
  refine x_cons (x_assignF (Str.ofString "way") 3 ?_)
  walk_at "W__law_turn_right"
  refine c_ltake (σ' := (fun a b => (AS x d p pd q qd iss 512 mss u n n false asked (decide (n = en + 1)) win wid told tack 60 held ((src, .list [.int a, .int b]) :: (st, .map KB (KBV iss mss u n en asked win wid heard sm mixed)) :: (sm, .list (is.map .int)) :: ψ)))) (fun _ _ => .tail (.tail (.tail (.tail (.tail (.tail .head)))))) (by decide) fun a b r r0 r1 => ?_
  refine x_cons (J.mono (P := fun fl l σ' => fl = FV.next ∧ ∃ (u n en win wid heard tack a b : Int) (told : V) (asked : Bool) (held : List UInt8) (is : List Int) (w1 w2 w3 w4 w5 : Option V), TOk mixed asked u n en heard told held is (top + 20) ∧ l = [some (.ref src), some (.ref x), none, w1, w2, w3, w4, w5, none, none, none, none, none, none, none, none, none] ∧ Sub (AS x d p pd q qd iss 512 mss u n n false asked (decide (n = en + 1)) win wid told tack 60 held ((src, .list [.int a, .int b]) :: (st, .map KB (KBV iss mss u n en asked win wid heard sm mixed)) :: (sm, .list (is.map .int)) :: ψ)) σ') ?br ?tl)
  case tl =>
    rintro fl l σ' ⟨rfl, u, n, en, win, wid, heard, tack, a, b, told, asked, held, is, w1, w2, w3, w4, w5, ok, rfl, hsub⟩
    refine J.sub hsub ?_
    have hle : is.length ≤ 1000 := by have := ok.hsm.1; have := ok.hne; have := ok.htop; omega
    refine x_cons (x_assignC 8 [(Str.ofString "state", L + 1)] ?_)
    walk_at "W__law_turn_right"
    refine .inl ⟨sm, is.map .int, fun j => .int (is[j]?.getD 0), rfl, (by walk_at "MEM"), by rw [List.length_map]; exact hle, fun j hj => ?_, ?_⟩
    · rw [nth_get, List.getElem?_map]
      rw [List.length_map] at hj
      simp [hj]
    refine ⟨fun j done lc σ' => ∃ w0 w1, done = ((is.take j).filter fun i => decide (u ≤ i)).map V.int ∧ lc = [w0, w1, none] ∧ σ' = (AS x d p pd q qd iss 512 mss u n n false asked (decide (n = en + 1)) win wid told tack 60 held ((src, .list [.int a, .int b]) :: (st, .map KB (KBV iss mss u n en asked win wid heard sm mixed)) :: (sm, .list (is.map .int)) :: ψ)), ?_, ?_, ?_, ?_⟩
    · exact ⟨_, _, rfl, rfl, rfl⟩
    · rintro j done lc σ' ⟨w0, w1, rfl, rfl, rfl⟩
      exact (by walk_at "MEM")
    · rintro j done lc σ' it a' C hj ⟨w0, w1, rfl, rfl, rfl⟩ y hy
      rw [List.length_map] at hj
      refine s_name 1 hy ?_
      refine t_one ?_
      walk_at "W_comp2"
      have e1 : (is[j]?.getD 0) = is[j] := by simp [hj]
      have et : is.take (j + 1) = is.take j ++ [is[j]] := by rw [List.take_add_one, List.getElem?_eq_getElem hj]; rfl
      refine ⟨fun c => ?_, fun c => ?_⟩ <;> (try dsimp only at c) <;> rw [e1] at c <;> simp only [cmpZ] at c
      · walk_at "W_comp2"
        refine ⟨_, Sub.rfl, _, _, ?_, rfl, rfl⟩
        (try dsimp only)
        rw [e1, et, List.filter_append, List.map_append]
        simp [c]
      · refine ⟨_, Sub.rfl, _, _, ?_, rfl, rfl⟩
        (try dsimp only)
        rw [et, List.filter_append, List.map_append]
        simp [c]
    · rintro done lc σ' a' ⟨w0, w1, rfl, rfl, rfl⟩
      rw [List.length_map, List.take_length]
      have hfl : (is.filter fun i => decide (u ≤ i)).length ≤ 1000 := Nat.le_trans (List.length_filter_le _ _) hle
      have hsm := ok.hsm.2.2
      generalize is.filter (fun i => decide (u ≤ i)) = fs at hfl hsm ⊢
      refine x_cons (x_if ?_)
      refine pt (v := !mixed && (decide (1 < ((fs.map V.int).length : Int)) && true)) (pt_and (pt_not ?_) fun _ => pt_and ?_ fun _ => pt_and0) ?_
      · walk_at "W__law_turn_right"
      · walk_at "W__law_turn_right"
        refine b_lenl (List.mem_append_right _ (.head _)) (by rw [List.length_map]; omega) ?_
        walk_at "W__law_turn_right"
      refine ⟨fun q => ?_, fun _ => ?_⟩
      · simp only [Bool.and_true, Bool.and_eq_true, Bool.not_eq_true', decide_eq_true_eq, List.length_map] at q
        have := hsm q.1
        omega
      refine x_nil ?_
      refine J.weak ⟨_, rfl⟩ ?_
      refine x_cons (x_ret ?_)
      refine e_cmpG ?_
      walk_at "W__law_turn_right"
      have a1 := ok.hne
      have a2 := ok.h60
      have a3 := ok.hun
      have a4 := ok.hl
      refine c_needs_probe (U := _) (I := _) (by decide) ok.hun (Int.le_refl _) (by omega) (by omega) rfl rfl ?_
      walk_at "W__law_turn_right"
      refine c_held (by walk_at "MEM") ?_
      refine fun _ _ hx hy => c_eqb ?_ hx hy
      rw [probe_law a4 a3 a1, decide_eq_true rfl]
      exact ⟨_, ⟨[(L + 1, O.cell (V.ref st))], by rw [hψ]; exact List.Perm.refl _⟩, h _ _ _ _ _ _ _ _ _ _ _ _ _ ok⟩
  case br =>
    refine x_if ?_
    refine pt (v := decide (r < 3) && (!asked && true)) (pt_and ?_ fun _ => pt_and (pt_not ?_) fun _ => pt_and0) ?_
    · walk_at "W__law_turn_right"
    · walk_at "W__law_turn_right"
    refine ⟨fun c1 => ?_, fun c1 => ?_⟩
    · simp only [Bool.and_true, Bool.and_eq_true, decide_eq_true_eq, Bool.not_eq_true'] at c1
      refine x_cons (x_assignF (Str.ofString "octets") 4 ?_)
      walk_at "W__law_turn_right"
      refine e_list ?_
      walk_at "W__law_turn_right"
      intro th
      walk_at "W__law_turn_right"
      refine c_lone (σ' := fun a b => (AS x d p pd q qd iss 512 mss u n n false asked (decide (n = en + 1)) win wid told tack 60 held ((src, .list [.int a, .int b]) :: (st, .map KB (KBV iss mss u n en asked win wid heard sm mixed)) :: (sm, .list (is.map .int)) :: ψ)) ++ [(th, O.list [V.int 1, V.int 1, V.int 2, V.int 3, V.int 7, V.int 20])]) (fun _ _ => .tail (.tail (.tail (.tail (.tail (.tail .head)))))) (List.mem_append_right _ (.head _)) (fun _ _ => List.mem_append_right _ (.head _)) (by decide) (by decide) fun a b v hv => ?_
      obtain ⟨j, rfl, j0, j1⟩ : ∃ j, v = V.int j ∧ 1 ≤ j ∧ j ≤ 20 := by
        simp only [List.mem_cons, List.not_mem_nil, or_false] at hv
        rcases hv with rfl | rfl | rfl | rfl | rfl | rfl <;> exact ⟨_, rfl, by decide, by decide⟩
      refine J.weak ⟨_, rfl⟩ ?_
      walk_at "W__law_turn_right"
      refine b_bytesn (by omega) (by omega) ?_
      have a0 := ok.h0
      have a1 := ok.hna c1.2
      have a2 := ok.h60
      have a3 := ok.hun
      have a4 := ok.hl
      have a5 := ok.htop
      generalize hz : List.replicate j.toNat (0 : UInt8) = z
      have hzl : z.length = j.toNat := by rw [← hz, List.length_replicate]
      refine x_cons (x_setitem ?_)
      walk_at "W__law_turn_right"
      refine c_put c1.2 (by omega) (by omega) ?_
      walk_at "W__law_turn_right"
      intro y hy
      walk_at "W__law_turn_right"
      refine st_map hy (atM (by walk_at "KA") rfl (.tail (.tail (.tail (.tail (.tail (.tail (.tail .head)))))))) (by decide) ?_
      repeat refine x_nil ?_
      have t0 : 0 ≤ min (z.length : Int) (60 - held.length) := by omega
      have t1 : min (z.length : Int) (60 - held.length) ≤ z.length := by omega
      have t2 : min (z.length : Int) (60 - held.length) ≤ 60 - held.length := by omega
      have t3 : min (z.length : Int) (60 - held.length) ≤ 20 := by omega
      have bl := bcut_to (z := z) t0 t1
      generalize min (z.length : Int) (60 - held.length) = T at t0 t1 t2 t3 bl ⊢
      exact ⟨rfl, u, n, en + T, win, wid, heard, tack, a, b, told, asked, held ++ bcut z .none (.int T), is, _, _, _, _, _, ⟨a0, a3, by omega, fun _ => by omega, by rw [List.length_append]; push_cast; omega, by omega, by omega, ok.hsm, ok.htold⟩, rfl,
        by rw [show decide (n = en + 1) = decide (n = en + T + 1) by rw [decide_eq_decide]; omega]; exact Sub.rfl⟩
    refine x_cons (x_if ?_)
    walk_at "W__law_turn_right"
    refine ⟨fun c2 => ?_, fun c2 => ?_⟩
    · refine x_cons (x_assignF (Str.ofString "congestion") 5 ?_)
      walk_at "W__law_turn_right"
      refine e_list ?_
      walk_at "W__law_turn_right"
      intro th
      walk_at "W__law_turn_right"
      refine c_lone (σ' := fun a b => (AS x d p pd q qd iss 512 mss u n n false asked (decide (n = en + 1)) win wid told tack 60 held ((src, .list [.int a, .int b]) :: (st, .map KB (KBV iss mss u n en asked win wid heard sm mixed)) :: (sm, .list (is.map .int)) :: ψ)) ++ [(th, O.list [V.int 4, V.int 9, V.int 30, V.int 100])]) (fun _ _ => .tail (.tail (.tail (.tail (.tail (.tail .head)))))) (List.mem_append_right _ (.head _)) (fun _ _ => List.mem_append_right _ (.head _)) (by decide) (by decide) fun a b v hv => ?_
      obtain ⟨cw, rfl⟩ : ∃ cw, v = V.int cw := by
        simp only [List.mem_cons, List.not_mem_nil, or_false] at hv
        rcases hv with rfl | rfl | rfl | rfl <;> exact ⟨_, rfl⟩
      refine J.weak ⟨_, rfl⟩ ?_
      refine x_cons (J.mono (P := fun fl l σ' => fl = FV.next ∧ ∃ (a b : Int) (ng : Bool), (mixed = false → ng = true) ∧ l = [some (.ref src), some (.ref x), none, some (.int r), none, some (.int cw), some (.bool ng), none, none, none, none, none, none, none, none, none, none] ∧ σ' = (AS x d p pd q qd iss 512 mss u n n false asked (decide (n = en + 1)) win wid told tack 60 held ((src, .list [.int a, .int b]) :: (st, .map KB (KBV iss mss u n en asked win wid heard sm mixed)) :: (sm, .list (is.map .int)) :: ψ))) ?_ ?_)
      · refine x_assignF (Str.ofString "is_nagle") 6 ?_
        refine e_or ?_
        walk_at "W__law_turn_right"
        refine ⟨fun hq => ?_, fun hq => ?_⟩
        · refine pv_one ?_
          walk_at "W__law_turn_right"
          refine c_ltake (σ' := (fun a b => (AS x d p pd q qd iss 512 mss u n n false asked (decide (n = en + 1)) win wid told tack 60 held ((src, .list [.int a, .int b]) :: (st, .map KB (KBV iss mss u n en asked win wid heard sm mixed)) :: (sm, .list (is.map .int)) :: ψ)))) (fun _ _ => .tail (.tail (.tail (.tail (.tail (.tail .head)))))) (by decide) fun a b r2 r3 r4 => ?_
          refine e_int ?_
          refine ⟨_, _, rfl, rfl, ?_⟩
          exact ⟨rfl, _, _, _, (fun m0 => by rw [m0] at hq; exact absurd hq (by decide)), rfl, rfl⟩
        · exact ⟨rfl, _, _, _, fun _ => rfl, rfl, rfl⟩
      rintro fl l σ' ⟨rfl, a, b, ng, hng, rfl, rfl⟩
      refine x_cons (x_if ?_)
      walk_at "W__law_turn_right"
      have a5 := ok.htop
      have a0 := ok.h0
      refine c_take_pieces (by omega) (by omega) ok.hl ok.h60 (by omega) (by omega) ok.hun ok.hne rfl ok.hna ok.hsm hng fun n' is' k1 k2 k3 k4 => ?_
      refine ⟨_, rfl, fun hq => absurd hq (by decide), fun _ => ?_⟩
      repeat refine x_nil ?_
      exact ⟨rfl, u, n', en, win, wid, heard, tack, a, b, told, asked, held, is', _, _, _, _, _, ⟨ok.h0, k1, k2, k3, ok.hl, ok.h60, by omega, k4, ok.htold⟩, rfl, Sub.rfl⟩
    refine x_cons (x_if ?_)
    walk_at "W__law_turn_right"
    refine ⟨fun c3 => ?_, fun c3 => ?_⟩
    · refine x_cons (x_assignF (Str.ofString "ack") 7 ?_)
      walk_at "W__law_turn_right"
      have h1 := ok.hun
      refine c_ltake (σ' := (fun a b => (AS x d p pd q qd iss 512 mss u n n false asked (decide (n = en + 1)) win wid told tack 60 held ((src, .list [.int a, .int b]) :: (st, .map KB (KBV iss mss u n en asked win wid heard sm mixed)) :: (sm, .list (is.map .int)) :: ψ)))) (fun _ _ => .tail (.tail (.tail (.tail (.tail (.tail .head)))))) (by omega) fun a b r2 r3 r4 => ?_
      walk_at "W__law_turn_right"
      refine x_cons (g_expr rfl rfl ?_)
      walk_at "W__law_turn_right"
      have a0 := ok.h0
      have a1 := ok.hne
      have a2 := ok.h60
      have a4 := ok.hl
      have a5 := ok.htop
      by_cases z : r2 = 0
      · subst z
        refine c_acked_no (g := 0) (by decide) h1 (by omega) ?_ (.inl rfl) fun t => ?_
        · rw [Int.add_zero, Int.sub_self]; rfl
        rw [← AS_app]
        refine J.weak ⟨_, rfl⟩ ?_
        refine x_cons (x_setitem ?_)
        walk_at "W__law_turn_right"
        intro y hy
        walk_at "W__law_turn_right"
        refine st_map hy (atM (by walk_at "KA") rfl (.tail (.tail (.tail (.tail (.tail (.tail (.tail .head)))))))) (by decide) ?_
        repeat refine x_nil ?_
        exact ⟨rfl, u, n, en, win, wid, heard, tack, a, b, told, asked, held, is, _, _, _, _, _, ⟨ok.h0, ok.hun, ok.hne, ok.hna, ok.hl, ok.h60, by omega, ok.hsm, ok.htold⟩, rfl, by rw [Int.add_zero]; exact Sub.rfl⟩
      refine c_acked_yes (by decide) h1 (Int.le_refl _) (by omega) (by omega) (by omega) (by omega) rfl fun t => ?_
      rw [← AS_app]
      refine J.weak ⟨_, rfl⟩ ?_
      refine x_cons (x_setitem ?_)
      walk_at "W__law_turn_right"
      intro y hy
      walk_at "W__law_turn_right"
      refine st_map hy (atM (by walk_at "KA") rfl (.tail (.tail (.tail (.tail (.tail (.tail (.tail .head)))))))) (by decide) ?_
      repeat refine x_nil ?_
      rw [show max n (u + r2) = n by omega]
      have t0 : 0 ≤ min (u + r2 - u - b2i false) (held.length : Int) := by rw [show b2i false = 0 from rfl]; omega
      have bl := bcut_from (z := held) t0 (by omega)
      have hs := sm_up ok.hsm (show u ≤ u + r2 by omega)
      have e0 : min (u + r2 - u - b2i false) (held.length : Int) = min r2 held.length := by rw [show b2i false = 0 from rfl]; omega
      rw [e0] at bl ⊢
      exact ⟨rfl, u + r2, n, en, win, wid, heard, tack, a, b, told, asked, _, is, _, _, _, _, _, ⟨by omega, by omega, a1, ok.hna, by rw [bl]; omega, by omega, by omega, hs, ok.htold⟩, rfl, Sub.rfl⟩
    refine x_cons (x_if ?_)
    walk_at "W__law_turn_right"
    refine ⟨fun c4 => ?_, fun c4 => ?_⟩
    · refine x_cons (x_tup ?_)
      refine e_tuple ?_
      walk_at "W__law_turn_right"
      refine e_list ?_
      walk_at "W__law_turn_right"
      intro th
      walk_at "W__law_turn_right"
      refine c_lone (σ' := fun a b => (AS x d p pd q qd iss 512 mss u n n false asked (decide (n = en + 1)) win wid told tack 60 held ((src, .list [.int a, .int b]) :: (st, .map KB (KBV iss mss u n en asked win wid heard sm mixed)) :: (sm, .list (is.map .int)) :: ψ)) ++ [(th, O.list [V.int 0, V.int 1, V.int 2, V.int 3, V.int 5, V.int 8, V.int 12, V.int 40, V.int 40])]) (fun _ _ => .tail (.tail (.tail (.tail (.tail (.tail .head)))))) (List.mem_append_right _ (.head _)) (fun _ _ => List.mem_append_right _ (.head _)) (by decide) (by decide) fun a b v hv => ?_
      obtain ⟨cw, rfl⟩ : ∃ cw, v = V.int cw := by
        simp only [List.mem_cons, List.not_mem_nil, or_false] at hv
        rcases hv with rfl | rfl | rfl | rfl | rfl | rfl | rfl | rfl | rfl <;> exact ⟨_, rfl⟩
      walk_at "W__law_turn_right"
      intro t0
      refine ⟨_, _, rfl, List.mem_append_right _ (.head _), fun xs hx => ⟨rfl, ?_⟩⟩
      refine J.weak ⟨_, rfl⟩ ?_
      refine J.weak ⟨_, rfl⟩ ?_
      refine s_more (fun y hy => s_sub ?_) xs hx
      walk_at "W__law_turn_right"
      refine st_map hy (atM (by walk_at "KA") rfl (.tail (.tail (.tail (.tail (.tail (.tail (.tail .head)))))))) (by decide) ?_
      refine s_more (fun y hy => s_sub ?_)
      walk_at "W__law_turn_right"
      refine st_map hy (atM (by walk_at "KA") rfl (.tail (.tail (.tail (.tail (.tail (.tail (.tail .head)))))))) (by decide) ?_
      refine s_last ?_
      refine x_cons (g_expr rfl rfl ?_)
      walk_at "W__law_turn_right"
      have a5 := ok.htop
      have e1 : heard + 1 - heard = 1 := by omega
      have key : ∀ {P : V → Store → Prop}, P (.bool true) (AS x d p pd q qd iss 512 mss u n n false asked (decide (n = en + 1)) cw (max wid cw) (.int (heard + 1)) 0 60 held ((src, .list [.int a, .int b]) :: (st, .map KB (KBV iss mss u n en asked cw wid (heard + 1) sm mixed)) :: (sm, .list (is.map .int)) :: ψ)) →
          Cl Sy D (k + 9) (.ref 213) [.ref x, .int (heard + 1), .int 0, .int cw] (AS x d p pd q qd iss 512 mss u n n false asked (decide (n = en + 1)) win wid told tack 60 held ((src, .list [.int a, .int b]) :: (st, .map KB (KBV iss mss u n en asked cw wid (heard + 1) sm mixed)) :: (sm, .list (is.map .int)) :: ψ)) P := by
        intro P hP
        have ht := ok.htold
        clear ok h
        rcases ht with rfl | rfl
        · exact c_take_window (b := true) (fun hq => c_newer_none hq) (fun _ => hP) (fun hq => nomatch hq)
        · refine c_take_window (b := true) (fun hq => c_newer_some (by decide) (by rw [e1]; decide) ?_) (fun _ => hP) (fun hq => nomatch hq)
          rw [e1]
          exact hq
      refine key ?_
      refine x_cons (x_setitem ?_)
      walk_at "W__law_turn_right"
      intro y hy
      walk_at "W__law_turn_right"
      refine st_map hy (atM (by walk_at "KA") rfl (.tail (.tail (.tail (.tail (.tail (.tail (.tail .head)))))))) (by decide) ?_
      repeat refine x_nil ?_
      exact ⟨rfl, u, n, en, cw, max wid cw, heard + 1, 0, a, b, .int (heard + 1), asked, held, is, _, _, _, _, _, ⟨ok.h0, ok.hun, ok.hne, ok.hna, ok.hl, ok.h60, by omega, ok.hsm, .inr rfl⟩, rfl, Sub.rfl⟩
    refine x_cons (x_if ?_)
    walk_at "W__law_turn_right"
    refine c_ltake (σ' := (fun a b => (AS x d p pd q qd iss 512 mss u n n false asked (decide (n = en + 1)) win wid told tack 60 held ((src, .list [.int a, .int b]) :: (st, .map KB (KBV iss mss u n en asked win wid heard sm mixed)) :: (sm, .list (is.map .int)) :: ψ)))) (fun _ _ => .tail (.tail (.tail (.tail (.tail (.tail .head)))))) (by decide) fun a b r2 r3 r4 => ?_
    walk_at "W__law_turn_right"
    have a5 := ok.htop
    refine ⟨fun c5 => ?_, fun c5 => ?_⟩
    · refine x_cons (g_expr rfl rfl ?_)
      walk_at "W__law_turn_right"
      refine c_ask_fin ?_
      refine x_cons (x_setitem ?_)
      walk_at "W__law_turn_right"
      intro y hy
      walk_at "W__law_turn_right"
      refine st_map hy (atM (by walk_at "KA") rfl (.tail (.tail (.tail (.tail (.tail (.tail (.tail .head)))))))) (by decide) ?_
      repeat refine x_nil ?_
      exact ⟨rfl, u, n, en, win, wid, heard, tack, a, b, told, true, held, is, _, _, _, _, _, ⟨ok.h0, ok.hun, ok.hne, fun q => (nomatch q), ok.hl, ok.h60, by omega, ok.hsm, ok.htold⟩, rfl, Sub.rfl⟩
    · repeat refine x_nil ?_
      exact ⟨rfl, u, n, en, win, wid, heard, tack, a, b, told, asked, held, is, _, _, _, _, _, ⟨ok.h0, ok.hun, ok.hne, ok.hna, ok.hl, ok.h60, by omega, ok.hsm, ok.htold⟩, rfl, Sub.rfl⟩
end
section
variable {D : Dx} {k : Nat} {σ φ : Store} {P : V → Store → Prop}
theorem J.nd {S : Sx} {env : Env} {α β : Type} {R : β → α → Prop} {l : List (Option V)} {t : Sem α} {PP : β → List (Option V) → Store → Prop} (h : (σ.map (·.1)).Nodup → J S D k env R l σ t PP) : J S D k env R l σ t PP := by
  intro A h₀ s hr hst
  obtain ⟨m, F, lr⟩ := id hst
  exact h F.nd A h₀ s hr hst
theorem run_end {c : Cfg} {n : Int} {sent : Bool} {m : Int} {pcs : List Pc} {n' : Int} {s' : Bool} {m' : Int} (h : Run c n sent m pcs n' s' m') (hE : c.E ≤ n) : pcs.length ≤ 1 := by
  cases h with
  | halt h _ => omega
  | step h _ _ _ => omega
  | fin _ _ _ => exact Nat.le_refl _
  | done _ _ => exact Nat.zero_le _
theorem pieces_few {u n en mss size most cw : Int} {asked nagle : Bool} {len : Nat} (hm : 0 < mss) (hl : (len : Int) = max 0 (en - u)) (h60 : en - u ≤ 60) (h1 : u ≤ n) (h2 : n ≤ en + 1)
    {pcs : List Pc} {n' : Int} {s' : Bool} {m' : Int} (hr : Run ⟨u, u + len, mss, size, most, cw, asked, nagle⟩ n (decide (n = en + 1)) n pcs n' s' m') : pcs.length ≤ 70 := by
  by_cases c : u ≤ en
  · have eE : u + (len : Int) = en := by omega
    rw [eE] at hr
    obtain ⟨_, _, _, j4, _⟩ := run_law (c := ⟨u, en, mss, size, most, cw, asked, nagle⟩) hm hr h1 h2 rfl rfl
    have := run_len (c := ⟨u, en, mss, size, most, cw, asked, nagle⟩) hm hr
    dsimp only at j4
    omega
  · have := run_end hr (by dsimp only; omega)
    omega
theorem sub_app {a b z : Store} (h : Sub a b) : Sub (a ++ z) (b ++ z) := by
  obtain ⟨φ, e⟩ := h
  refine ⟨φ, (e.append_right z).trans ?_⟩
  rw [List.append_assoc, List.append_assoc]
  exact .append_left _ List.perm_append_comm
abbrev K8 : List Str := [Str.ofString "iss", Str.ofString "mss", Str.ofString "una", Str.ofString "next", Str.ofString "end", Str.ofString "asked", Str.ofString "window", Str.ofString "widest"]
local macro_rules | `(tactic| walk_at "N_law") => `(tactic| first | ((with_reducible first | refine' g_name (Str.ofString "script") 0 ?_ ?_ ?_ | refine' g_name (Str.ofString "k") 1 ?_ ?_ ?_ | refine' g_name (Str.ofString "source") 2 ?_ ?_ ?_ | refine' g_name (Str.ofString "iss") 3 ?_ ?_ ?_ | refine' g_name (Str.ofString "mss") 4 ?_ ?_ ?_ | refine' g_name (Str.ofString "sender") 5 ?_ ?_ ?_ | refine' g_name (Str.ofString "state") 6 ?_ ?_ ?_ | refine' g_name (Str.ofString "turn") 7 ?_ ?_ ?_); walk_at "NM"))
local macro_rules | `(tactic| walk_at "W_law") => `(tactic| repeat (first | walk_at "N_law" | walk_at "W1"))
theorem c_law {A : Around} {s : Shared} {xs : List Value} (hr : Room0 (k + 14) A) (B : Base Sy D s.heap) (hfix : s.gens = D.gens ∧ s.drawn = D.drawn ∧ s.os = D.os) (hx : VRs [.ref D.ls] xs) (hn : D.ns.length < 1000) :
    codeAny (model Sy.prog D.w) A (.call (.ref 427) ⟨xs, []⟩) (fun r s' => ∃ v v' σ', r = .ok (.ret v') ∧ VR v v' ∧ (fun v (_ : Store) => v = V.bool true) v σ' ∧ (∀ b o, s.heap.get? b = some o → s'.heap.get? b = some o) ∧ s'.gens = D.gens ∧ s'.drawn = D.drawn ∧ s'.os = D.os) s := by
  refine' cl_top [Str.ofString "script"] hr B hfix hx ?ho ?hc ?hb ?hok ?h
  (case ho => (show List.lookup _ (hd.heap_1 _) = _; k_is)); (case hc => (show codeIn (hd.heap_1 _) _ _ = true; k_is)); (case hok => kernel_rfl); (case hb => (intro s xs _ hx; (first | (obtain ⟨x1, rfl, -⟩ := VRs1 hx) | (obtain ⟨x1, x2, rfl, -⟩ := VRs2 hx) | (obtain ⟨x1, x2, x3, rfl, -⟩ := VRs3 hx) | (obtain ⟨x1, x2, x3, x4, rfl, -⟩ := VRs4 hx) | (obtain ⟨x1, x2, x3, x4, x5, rfl, -⟩ := VRs5 hx)); exact BindsTo.of_eq (by kernel_rfl))); intro L
  refine ex_l (l' := [some (.ref D.ls), none, none, none, none, none, none, none, none, none, none, none, none, none, none, none]) rfl ?_
  refine x_cons (x_forR 1 ?_)
  walk_at "W_law"
  refine b_lens (by omega) ?_
  walk_at "W_law"
  refine b_range fun rg => ?_
  refine ⟨rg, _, rfl, List.mem_append_right _ (.head _), by omega, by omega, fun j l σ' => ∃ w1 w2 w3 w4 w5 w6 w7, l = [some (.ref D.ls), w1, w2, w3, w4, w5, w6, w7, none, none, none, none, none, none, none, none], ⟨_, _, _, _, _, _, _, rfl⟩, ?_, ?_⟩
  rotate_left
  · rintro l σ' ⟨w1, w2, w3, w4, w5, w6, w7, rfl⟩
    refine x_cons (x_ret ?_)
    walk_at "W_law"
    rfl
  rintro j l σ' it hj ⟨w1, w2, w3, w4, w5, w6, w7, rfl⟩
  generalize hit : O.rit (j + 1) _ = oit
  refine J.sub (σ := [(it, oit)]) ⟨σ', List.perm_append_comm⟩ ?_
  refine x_cons (x_assignF (Str.ofString "source") 2 ?_)
  walk_at "W_law"
  refine c_lpool (by omega) (by omega) (by omega) fun src a b => ?_
  refine J.sub (σ := [(src, O.list [V.int a, V.int b]), (it, oit)]) (by repeat (first | exact Sub.nil | exact Pick.head | apply Pick.tail | apply Sub.cons)) ?_
  refine x_cons (x_tupS (names := [Str.ofString "iss", Str.ofString "mss"]) ?_ rfl rfl)
  refine e_tuple ?_
  walk_at "W_law"
  refine c_ltake (σ' := fun a b => [(src, O.list [V.int a, V.int b]), (it, oit)]) (fun _ _ => .head) (by decide) fun a b iss i0 i1 => ?_
  walk_at "W_law"
  refine c_ltake (σ' := fun a b => [(src, O.list [V.int a, V.int b]), (it, oit)]) (fun _ _ => .head) (by decide) fun a b ms m0 m1 => ?_
  walk_at "W_law"
  intro t0
  refine ⟨_, _, rfl, List.mem_append_right _ (.head _), rfl, ?_⟩
  generalize hmss : (2 : Int) + ms = mss
  refine s_more fun _ hx => s_bind 4 hx ?_
  refine s_more fun _ hx => s_bind 3 hx ?_
  refine s_last ?_
  refine J.weak ⟨_, rfl⟩ ?_
  refine x_cons (x_assignF (Str.ofString "sender") 5 ?_)
  walk_at "W_law"
  refine cl_newF new_Sender fun x d => ?_
  refine c_sinit (by decide) fun p pd q qd => ⟨rfl, ?_⟩
  have ei : (iss + 0).fmod 512 = iss := by rw [Int.add_zero, Int.fmod_eq_emod_of_nonneg _ (by decide)]; exact Int.emod_eq_of_lt i0 i1
  refine J.sub (σ := AS x d p pd q qd iss 512 mss 0 0 0 true false false 0 0 .none 0 60 [] [(src, O.list [V.int a, V.int b]), (it, oit)]) (by rw [AS, ei]; exact (by repeat (first | exact Sub.nil | exact Pick.head | apply Pick.tail | apply Sub.cons))) ?_
  refine x_cons (g_expr rfl rfl ?_)
  walk_at "W_law"
  refine c_start rfl (by decide) (by rw [Int.add_zero] at ei; exact ei) (Int.le_refl _) (by decide) (Int.le_refl _) (by decide) (by decide) (fun _ => ?_) (fun hq => absurd rfl hq)
  rw [show max (0 : Int) 1 = 1 from rfl]
  refine x_cons (g_expr rfl rfl ?_)
  walk_at "W_law"
  refine c_acked_yes (a := 1) (o := 0) (by decide) (by decide) (by decide) (by decide) (by decide) (by decide) (by decide) (by decide) fun t => ?_
  rw [← AS_app, show max (1 : Int) 1 = 1 from rfl, show bcut [] (V.int 0) V.none = [] from rfl]
  refine J.weak ⟨_, rfl⟩ ?_
  refine x_cons (x_assignF (Str.ofString "state") 6 ?_)
  refine e_dict fun st => ?_
  refine d_cons ?_
  walk_at "W_law"
  refine d_cons ?_
  walk_at "W_law"
  refine d_cons ?_
  walk_at "W_law"
  refine d_cons ?_
  walk_at "W_law"
  refine d_cons ?_
  walk_at "W_law"
  refine d_cons ?_
  walk_at "W_law"
  refine d_cons ?_
  walk_at "W_law"
  refine d_cons ?_
  walk_at "W_law"
  refine d_nil ?_
  refine ⟨_, .tail (.tail (.tail (.tail (.tail (.tail (.tail (.tail .head))))))), (by show List.Nodup K8; decide +kernel), ?_⟩
  refine J.sub (σ := AS x d p pd q qd iss 512 mss 1 1 1 false false false 0 0 .none 0 60 [] [(src, O.list [V.int a, V.int b]), (st, O.map K8 [.int iss, .int mss, .int 1, .int 1, .int 1, .bool false, .int 0, .int 0]), (it, oit)]) (by repeat (first | exact Sub.nil | exact Pick.head | apply Pick.tail | apply Sub.cons)) ?_
  refine ex_l (l' := [some (.ref D.ls), some (.int j), some (.ref src), some (.int iss), some (.int mss), some (.ref x), some (.ref st), w7, none, none, none, none, none, none, none, none]) rfl ?_
  refine x_cons (g_expr rfl rfl ?_)
  refine e_update ?_
  walk_at "W_law"
  refine ⟨_, _, _, rfl, (by walk_at "MEM"), ?_⟩
  ((with_reducible refine g_cons ?_ ?_); (· rfl))
  refine e_dict fun sd => ?_
  refine d_cons ?_
  walk_at "W_law"
  refine d_cons ?_
  refine e_list ?_
  walk_at "W_law"
  intro sm
  refine d_cons ?_
  walk_at "W_law"
  refine c_ltake (σ' := fun a b => AS x d p pd q qd iss 512 mss 1 1 1 false false false 0 0 .none 0 60 [] [(src, O.list [V.int a, V.int b]), (st, O.map K8 [.int iss, .int mss, .int 1, .int 1, .int 1, .bool false, .int 0, .int 0]), (it, oit)] ++ [(sd, O.map [] [])] ++ [(sm, O.list [])]) (fun _ _ => .tail (.tail (.tail (.tail (.tail (.tail .head)))))) (by decide) fun a b mx x0 x1 => ?_
  walk_at "W_law"
  refine d_nil ?_
  generalize cmpZ .Eq mx 0 = mixed
  refine ⟨_, .tail (.tail (.tail (.tail (.tail (.tail (.tail (.tail (.tail .head)))))))), (by show List.Nodup [Str.ofString "heard", Str.ofString "small", Str.ofString "mixed"]; decide +kernel), ?_⟩
  refine J.sub (σ := AS x d p pd q qd iss 512 mss 1 1 1 false false false 0 0 .none 0 60 [] [(src, O.list [V.int a, V.int b]), (st, O.map K8 [.int iss, .int mss, .int 1, .int 1, .int 1, .bool false, .int 0, .int 0]), (it, oit), (sd, O.map [Str.ofString "heard", Str.ofString "small", Str.ofString "mixed"] [.int 1, .ref sm, .bool mixed]), (sm, O.list [])]) (by repeat (first | exact Sub.nil | exact Pick.head | apply Pick.tail | apply Sub.cons)) ?_
  refine J.nd fun hnd => ?_
  refine a_nil ?_
  refine ⟨sd, _, _, _, _, _, rfl, (by walk_at "MEM"), .tail (.tail (.tail (.tail (.tail (.tail (.tail .head)))))), ?_, (by show List.Nodup KB; decide +kernel), by decide, ?_⟩
  · intro e
    subst e
    simp [AS] at hnd
  clear hnd
  obtain ⟨is, his⟩ : ∃ is : List Int, is = [] := ⟨_, rfl⟩
  refine J.sub (σ := AS x d p pd q qd iss 512 mss 1 1 1 false false (decide ((1 : Int) = 1 + 1)) 0 0 .none 0 60 [] ((src, .list [.int a, .int b]) :: (st, .map KB (KBV iss mss 1 1 1 false 0 0 1 sm mixed)) :: (sm, .list (is.map .int)) :: [(it, oit)])) (by rw [his]; exact (by repeat (first | exact Sub.nil | exact Pick.head | apply Pick.tail | apply Sub.cons))) ?_
  refine x_cons (x_forR 7 ?_)
  walk_at "W_law"
  refine c_ltake (σ' := fun a b => AS x d p pd q qd iss 512 mss 1 1 1 false false (decide ((1 : Int) = 1 + 1)) 0 0 .none 0 60 [] ((src, .list [.int a, .int b]) :: (st, .map KB (KBV iss mss 1 1 1 false 0 0 1 sm mixed)) :: (sm, .list (is.map .int)) :: [(it, oit)])) (fun _ _ => .tail (.tail (.tail (.tail (.tail (.tail .head)))))) (by decide) fun a b tu u0 u1 => ?_
  walk_at "W_law"
  refine b_range fun rg2 => ?_
  refine ⟨rg2, _, rfl, List.mem_append_right _ (.head _), by omega, by omega, fun j2 l σ' => ∃ (u n en win wid heard tack a b : Int) (told : V) (asked : Bool) (held : List UInt8) (is : List Int) (w8 : Option V), TOk mixed asked u n en heard told held is (1 + 20 * (j2 : Int)) ∧ l = [some (.ref D.ls), some (.int j), some (.ref src), some (.int iss), some (.int mss), some (.ref x), some (.ref st), w8, none, none, none, none, none, none, none, none] ∧ Sub (AS x d p pd q qd iss 512 mss u n n false asked (decide (n = en + 1)) win wid told tack 60 held ((src, .list [.int a, .int b]) :: (st, .map KB (KBV iss mss u n en asked win wid heard sm mixed)) :: (sm, .list (is.map .int)) :: [(it, oit)])) σ', ?_, ?_, ?_⟩
  · subst his
    exact ⟨1, 1, 1, 0, 0, 1, 0, a, b, .none, false, [], [], w7, ⟨by decide, by decide, by decide, fun _ => by decide, by decide, by decide, by decide, ⟨by decide, fun _ hi => (nomatch hi), fun _ => by decide⟩, .inl rfl⟩, rfl, Sub.of_pre ⟨_, rfl⟩⟩
  · rintro j2 l σ' it2 hj2 ⟨u, n, en, win, wid, heard, tack, a, b, told, asked, held, is, w8, ok, rfl, hsub⟩
    generalize hit2 : O.rit (j2 + 1) _ = oit2
    refine J.sub (sub_app hsub) ?_
    refine J.sub (σ := (AS x d p pd q qd iss 512 mss u n n false asked (decide (n = en + 1)) win wid told tack 60 held ((src, .list [.int a, .int b]) :: (st, .map KB (KBV iss mss u n en asked win wid heard sm mixed)) :: (sm, .list (is.map .int)) :: [(it, oit), (it2, oit2)]))) Sub.rfl ?_
    refine x_cons (x_if ?_)
    walk_at "W_law"
    refine c_turn (top := 1 + 20 * (j2 : Int)) (by omega) (by omega) (by omega) ok fun u n en win wid heard tack a b told asked held is ok => ?_
    refine ⟨_, rfl, fun hq => absurd hq (by decide), fun _ => ?_⟩
    refine x_nil ?_
    refine x_nil ?_
    have et : (1 : Int) + 20 * (j2 : Int) + 20 = 1 + 20 * ((j2 + 1 : Nat) : Int) := by push_cast; omega
    rw [et] at ok
    exact ⟨(AS x d p pd q qd iss 512 mss u n n false asked (decide (n = en + 1)) win wid told tack 60 held ((src, .list [.int a, .int b]) :: (st, .map KB (KBV iss mss u n en asked win wid heard sm mixed)) :: (sm, .list (is.map .int)) :: [(it, oit)])), Sub.rfl, u, n, en, win, wid, heard, tack, a, b, told, asked, held, is, _, ok, rfl, Sub.rfl⟩
  · rintro l σ' ⟨u, n, en, win, wid, heard, tack, a, b, told, asked, held, is, w8, ok, rfl, hsub⟩
    refine J.sub hsub ?_
    clear hsub
    have a0 := ok.h0
    have a1 := ok.hne
    have a2 := ok.h60
    have a3 := ok.hun
    have a4 := ok.hl
    refine x_cons (x_if ?_)
    walk_at "W_law"
    refine c_pieces (c := ⟨u, u + held.length, mss, win, wid, 100, asked, false⟩) (by decide) a3 (Int.le_refl _) (by dsimp only; omega) (by dsimp only; omega) (by omega) (by omega) rfl rfl rfl rfl rfl rfl rfl fun f ts pcs n' s' m' hrun hlt => ?_
    have hfew := pieces_few (by omega) a4 a2 a3 a1 hrun
    walk_at "W_law"
    refine b_lenl (by walk_at "MEM") (by rw [List.length_map]; omega) ?_
    walk_at "W_law"
    refine ⟨fun hq => ?_, fun _ => ?_⟩
    · simp only [cmpZ, decide_eq_true_eq, List.length_map] at hq
      omega
    refine x_nil ?_
    refine x_nil ?_
    exact ⟨[], (by repeat (first | exact Sub.nil | exact Pick.head | apply Pick.tail | apply Sub.cons)), _, _, _, _, _, _, _, rfl⟩
end
end Mine
set_option maxHeartbeats 4000000
open PySem PySem.W PySem.Calls PyProof.Rows
theorem PySem.Challenge.cw_nu0132_02_holds : PySem.Challenge.rw_nu0132_02.Holds := by
  refine Mine.hd ?_
  k_fill
  intro w s₀ s₁ mg mb G Y fa o pm cd doc dV kV ho hd' hcd hD hmg hg args vals as hpre hlay hrd hwl hlo
  have KX := kIn_of Y
  refine Ground.open G ?_
  intro T B D TE TW
  clear ho hd' hcd hD
  wrow_args hpre hlay hrd hwl hlo
  refine enter_call ?_
  refine codeAny_mono ?_ (fun _ _ g => GoodW.toG g)
  rename_i ns hsh _ _ _ _ as1 as2 l vs as3 hL ra w1 r0 hI hrr hc1 hc2
  have hfa : mg (Str.ofString "law") = some (.ref 427) := mg_of KX T.g (by kernel_rfl)
  have e : some (Value.ref fa) = some (Value.ref 427) := hmg.symm.trans hfa
  injection e with e
  injection e with e
  subst e
  have hlen : ns.length < 1000 := by omega
  refine codeAny_mono (Mine.c_law (k := 0) (D := ⟨w, mg, mb, l, vs, ns, hI, s₁.gens, s₁.drawn, s₁.os⟩) (A := callerA) (s := s₁) (xs := [.ref l]) ⟨rfl, by decide, by decide, [], rfl⟩ ⟨KX, topRead_of T, hL, T.seer (by decide +kernel)⟩ ⟨rfl, rfl, rfl⟩ ⟨rfl, trivial⟩ hlen) ?_
  rintro r s' ⟨v, v', σ', rfl, hv, hp, keep, hg', _, ho'⟩
  subst hp
  cases (show v' = .bool true from hv)
  exact ⟨.inl ⟨_, _, [], rfl, fun _ => rfl, ReadsW.bool true, (by first | (with_unfolding_all rfl) | kernel_rfl), fun _ => ⟨List.nodup_nil, fun _ hm => (nomatch hm)⟩⟩, keep, ho', hg'.trans hg⟩
