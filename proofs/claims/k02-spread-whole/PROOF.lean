import PyProof.Rows.All
import Wide.All
import OpenK.AllK
import Wide.FinOn
import HandS.ForMost
import HandS.Deep
import HandS.IsInst
import HandS.Wide
import HandS.TupAny
import HandS.SortInts
import HandS.Style
import HandS.TupLen
import HandS.NoneIn
import HandS.Small
import HandS.TupSets
import HandS.Sort
import KE.SortData
import KE.DataMinMax
import PySem.Challenge.RW_whywait_k02_spread_whole
set_option Elab.async false
set_option linter.all false
set_option maxRecDepth 100000
set_option maxHeartbeats 4000000
/-! The pure layer, part 0: trees of data, trees of ownership, what of the heap they stand for. -/
namespace PL
open PySem L2

inductive Shape where
  | lst | tup | ro | dK (ks : List Key) | dT (ks : List (List Key)) | obj (C : Addr) (ns : List Str)
  deriving DecidableEq
inductive D where
  | non | bl (b : Bool) | int (i : Int) | str (x : Str) | node (sh : Shape) (ks : List D)
  deriving Inhabited
inductive T where
  | s (d : D) | node (sh : Shape) (ks : List T)
  deriving Inhabited
abbrev D.lst (xs : List D) : D := .node .lst xs
abbrev D.tup (xs : List D) : D := .node .tup xs
abbrev T.lst (xs : List T) : T := .node .lst xs
mutual
def T.er : T → D
  | .s d => d
  | .node sh ks => .node sh (ers ks)
def ers : List T → List D
  | [] => []
  | t :: ts => t.er :: ers ts
end
theorem ers_map : ∀ ts : List T, ers ts = ts.map T.er
  | [] => rfl
  | t :: ts => by show t.er :: ers ts = _; rw [ers_map ts]; rfl
@[simp] theorem er_s (d : D) : (T.s d).er = d := rfl
@[simp] theorem er_node (sh : Shape) (ts : List T) : (T.node sh ts).er = .node sh (ts.map T.er) := by
  show D.node sh (ers ts) = _
  rw [ers_map]
theorem er_s_map (ds : List D) : (ds.map T.s).map T.er = ds := by
  rw [List.map_map]
  exact List.map_id ds

/-- all that is tracked stays -/
abbrev Ex (H H' : Hp) : Prop := Same H H'
theorem ex_rd {H H' : Hp} {a : Addr} {u : HO} (e : Ex H H') (h : Rd H a u) : Rd H' a u := by
  rcases h with h | ⟨o, h⟩
  · exact .inl (e a _ h)
  · exact .inr ⟨o, e a _ h⟩
theorem ex_l {K : PySem.W.Frag} {H H' : Hp} {a : Addr} {xs : List V} (e : Ex H H') (h : SqL K H a xs) : SqL K H' a xs := by
  rcases h with h | h
  · exact .inl (ex_rd e h)
  · exact .inr h
theorem ex_t {K : PySem.W.Frag} {H H' : Hp} {a : Addr} {xs : List V} (e : Ex H H') (h : SqT K H a xs) : SqT K H' a xs := by
  rcases h with h | h
  · exact .inl (ex_rd e h)
  · exact .inr h
theorem ex_new {H : Hp} {p : Addr} {o : HO} (h : H p = none) : Ex H (upd H p o) := fun a u e => by
  rw [upd_ne (ne_of_none e h)]
  exact e

/-- what is read at p as a node -/
def NodeR (K : PySem.W.Frag) (S : Hp) (p : Addr) : Shape → List V → Prop
  | .lst, vs => S p = some (.lst vs)
  | .ro, vs => SqL K S p vs
  | .tup, vs => S p = some (.tup vs)
  | .dK ks, vs => ks.length = vs.length ∧ Rd S p (.dK (ks.zip vs))
  | .dT ks, vs => ks.length = vs.length ∧ Rd S p (.dT (ks.zip vs))
  | .obj C ns, vs => ns.length = vs.length ∧ ∃ dx, S p = some (.ins C dx (ns.zip vs))
theorem NodeR.mono {K : PySem.W.Frag} {S S' : Hp} {p : Addr} {vs : List V} (e : Ex S S') : ∀ {sh : Shape}, NodeR K S p sh vs → NodeR K S' p sh vs
  | .lst, h => e _ _ h
  | .ro, h => ex_l e h
  | .tup, h => e _ _ h
  | .dK _, h => ⟨h.1, ex_rd e h.2⟩
  | .dT _, h => ⟨h.1, ex_rd e h.2⟩
  | .obj _ _, h => ⟨h.1, let ⟨dx, q⟩ := h.2; ⟨dx, e _ _ q⟩⟩
/-- what stands at an owned node -/
def ShO : Shape → List V → HO → Prop
  | .lst, vs, o => o = .lst vs
  | .tup, _, _ => False
  | .ro, _, _ => False
  | .dK ks, vs, o => ks.length = vs.length ∧ o = .dK (ks.zip vs) ∧ ks.Nodup
  | .dT ks, vs, o => ks.length = vs.length ∧ o = .dT (ks.zip vs) ∧ ks.Nodup
  | .obj C ns, vs, o => ns.length = vs.length ∧ ∃ dx, o = .ins C dx (ns.zip vs)
theorem ShO.read {K : PySem.W.Frag} {S : Hp} {p : Addr} {vs : List V} {o : HO} (e : S p = some o) : ∀ {sh : Shape}, ShO sh vs o → NodeR K S p sh vs
  | .lst, h => e.trans (congrArg some h)
  | .tup, h => h.elim
  | .ro, h => h.elim
  | .dK _, h => ⟨h.1, .inl (by rw [e]; exact congrArg some h.2.1)⟩
  | .dT _, h => ⟨h.1, .inl (by rw [e]; exact congrArg some h.2.1)⟩
  | .obj _ _, h => ⟨h.1, let ⟨dx, q⟩ := h.2; ⟨dx, by rw [e]; exact congrArg some q⟩⟩
/-- an owned node can be written -/
theorem ShO.mu {vs : List V} {o : HO} : ∀ {sh : Shape}, ShO sh vs o → Mut (some o)
  | .lst, h => by cases h; trivial
  | .tup, h => h.elim
  | .ro, h => h.elim
  | .dK _, h => by obtain ⟨_, rfl, _⟩ := h; trivial
  | .dT _, h => by obtain ⟨_, rfl, _⟩ := h; trivial
  | .obj _ _, h => by obtain ⟨_, _, rfl⟩ := h; trivial

mutual
inductive Rep (K : PySem.W.Frag) (S : Hp) : V → D → Prop
  | non : Rep K S .non .non
  | bl (b : Bool) : Rep K S (.bl b) (.bl b)
  | int (i : Int) : Rep K S (.int i) (.int i)
  | str (x : Str) : Rep K S (.str x) (.str x)
  | node {p : Addr} {sh : Shape} {vs : List V} {ds : List D} : NodeR K S p sh vs → vs.length ≤ sizeLine → RepL K S vs ds → Rep K S (.ref p) (.node sh ds)
inductive RepL (K : PySem.W.Frag) (S : Hp) : List V → List D → Prop
  | nil : RepL K S [] []
  | cons {v : V} {vs : List V} {d : D} {ds : List D} : Rep K S v d → RepL K S vs ds → RepL K S (v :: vs) (d :: ds)
end
mutual
theorem Rep.mono {K : PySem.W.Frag} {S S' : Hp} (e : Ex S S') : ∀ {d : D} {v : V}, Rep K S v d → Rep K S' v d
  | .non, _, h => by cases h; exact .non
  | .bl _, _, h => by cases h; exact .bl _
  | .int _, _, h => by cases h; exact .int _
  | .str _, _, h => by cases h; exact .str _
  | .node _ _, _, h => by
    cases h with
    | node h1 h2 h3 => exact .node (h1.mono e) h2 (RepL.mono e h3)
theorem RepL.mono {K : PySem.W.Frag} {S S' : Hp} (e : Ex S S') : ∀ {ds : List D} {vs : List V}, RepL K S vs ds → RepL K S' vs ds
  | [], _, h => by cases h; exact .nil
  | d :: ds, _, h => by
    cases h with
    | cons h1 h2 => exact .cons (Rep.mono e h1) (RepL.mono e h2)
end
theorem RepL.len {K : PySem.W.Frag} {S : Hp} : ∀ {ds : List D} {vs : List V}, RepL K S vs ds → vs.length = ds.length
  | [], _, h => by cases h; rfl
  | d :: ds, _, h => by
    cases h with
    | cons h1 h2 => rw [List.length_cons, List.length_cons, RepL.len h2]
theorem RepL.get {K : PySem.W.Frag} {S : Hp} : ∀ {ds : List D} {vs : List V} {i : Nat} {d : D}, RepL K S vs ds → ds[i]? = some d → ∃ v, vs[i]? = some v ∧ Rep K S v d
  | [], _, _, _, _, h => by simp at h
  | d :: ds, _, i, x, h, e => by
    cases h with
    | cons h1 h2 =>
      cases i with
      | zero => simp at e; subst e; exact ⟨_, rfl, h1⟩
      | succ i =>
        obtain ⟨v, a, b⟩ := RepL.get h2 (show ds[i]? = some x by simpa using e)
        exact ⟨v, by simpa using a, b⟩
theorem RepL.getV {K : PySem.W.Frag} {S : Hp} {ds : List D} {vs : List V} {i : Nat} {v : V} (h : RepL K S vs ds) (e : vs[i]? = some v) : ∃ d, ds[i]? = some d ∧ Rep K S v d := by
  have hi : i < ds.length := by
    rw [← h.len]
    exact (List.getElem?_eq_some_iff.mp e).1
  obtain ⟨v', a, b⟩ := h.get (List.getElem?_eq_getElem hi)
  rw [e] at a
  cases a
  exact ⟨_, List.getElem?_eq_getElem hi, b⟩
theorem RepL.append {K : PySem.W.Frag} {S : Hp} : ∀ {ds es : List D} {vs ws : List V}, RepL K S vs ds → RepL K S ws es → RepL K S (vs ++ ws) (ds ++ es)
  | [], _, _, _, h, g => by cases h; exact g
  | d :: ds, _, _, _, h, g => by
    cases h with
    | cons h1 h2 => exact .cons h1 (RepL.append h2 g)

mutual
inductive Own (K : PySem.W.Frag) (S H : Hp) : V → T → List Addr → Prop
  | s {v : V} {d : D} : Rep K S v d → Own K S H v (.s d) []
  | node {p : Addr} {o : HO} {sh : Shape} {vs : List V} {ts : List T} {F : List Addr} : H p = some o → ShO sh vs o → vs.length ≤ sizeLine → OwnL K S H vs ts F → p ∉ F → Own K S H (.ref p) (.node sh ts) (p :: F)
inductive OwnL (K : PySem.W.Frag) (S H : Hp) : List V → List T → List Addr → Prop
  | nil : OwnL K S H [] [] []
  | cons {v : V} {vs : List V} {t : T} {ts : List T} {F G : List Addr} : Own K S H v t F → OwnL K S H vs ts G → (∀ p ∈ F, p ∉ G) → OwnL K S H (v :: vs) (t :: ts) (F ++ G)
end
mutual
theorem Own.mono {K : PySem.W.Frag} {S S' H H' : Hp} (e : Ex S S') : ∀ {t : T} {v : V} {F : List Addr}, Own K S H v t F → (∀ p ∈ F, H' p = H p) → Own K S' H' v t F
  | .s _, _, _, h, _ => by
    cases h with
    | s h => exact .s (h.mono e)
  | .node _ _, _, _, h, k => by
    cases h with
    | node h1 h2 h3 h4 h5 => exact .node ((k _ (.head _)).trans h1) h2 h3 (OwnL.mono e h4 fun p hp => k p (.tail _ hp)) h5
theorem OwnL.mono {K : PySem.W.Frag} {S S' H H' : Hp} (e : Ex S S') : ∀ {ts : List T} {vs : List V} {F : List Addr}, OwnL K S H vs ts F → (∀ p ∈ F, H' p = H p) → OwnL K S' H' vs ts F
  | [], _, _, h, _ => by cases h; exact .nil
  | t :: ts, _, _, h, k => by
    cases h with
    | cons h1 h2 h3 => exact .cons (Own.mono e h1 fun p hp => k p (List.mem_append_left _ hp)) (OwnL.mono e h2 fun p hp => k p (List.mem_append_right _ hp)) h3
end
/-! frozen: what is owned comes into the shared part -/
mutual
theorem Own.frz {K : PySem.W.Frag} {S S' H : Hp} (e : Ex S S') : ∀ {t : T} {v : V} {F : List Addr}, Own K S H v t F → (∀ p ∈ F, S' p = H p) → Rep K S' v t.er
  | .s _, _, _, h, _ => by
    cases h with
    | s h => exact h.mono e
  | .node _ _, _, _, h, k => by
    cases h with
    | node h1 h2 h3 h4 h5 => exact .node (h2.read ((k _ (.head _)).trans h1)) h3 (OwnL.frz e h4 fun p hp => k p (.tail _ hp))
theorem OwnL.frz {K : PySem.W.Frag} {S S' H : Hp} (e : Ex S S') : ∀ {ts : List T} {vs : List V} {F : List Addr}, OwnL K S H vs ts F → (∀ p ∈ F, S' p = H p) → RepL K S' vs (ers ts)
  | [], _, _, h, _ => by cases h; exact .nil
  | t :: ts, _, _, h, k => by
    cases h with
    | cons h1 h2 h3 => exact .cons (Own.frz e h1 fun p hp => k p (List.mem_append_left _ hp)) (OwnL.frz e h2 fun p hp => k p (List.mem_append_right _ hp))
end
theorem Own.rep {K : PySem.W.Frag} {S H : Hp} {t : T} {v : V} {F : List Addr} (e : Ex S H) (h : Own K S H v t F) : Rep K H v t.er := h.frz e fun _ _ => rfl
mutual
theorem Own.dom {K : PySem.W.Frag} {S H : Hp} : ∀ {t : T} {v : V} {F : List Addr}, Own K S H v t F → ∀ p ∈ F, ∃ o, H p = some o ∧ Mut (some o)
  | .s _, _, _, h, _, hp => by
    cases h with
    | s h => cases hp
  | .node _ _, _, _, h, p, hp => by
    cases h with
    | node h1 h2 h3 h4 h5 =>
      cases hp with
      | head => exact ⟨_, h1, h2.mu⟩
      | tail _ hp => exact OwnL.dom h4 p hp
theorem OwnL.dom {K : PySem.W.Frag} {S H : Hp} : ∀ {ts : List T} {vs : List V} {F : List Addr}, OwnL K S H vs ts F → ∀ p ∈ F, ∃ o, H p = some o ∧ Mut (some o)
  | [], _, _, h, _, hp => by cases h; cases hp
  | t :: ts, _, _, h, p, hp => by
    cases h with
    | cons h1 h2 h3 =>
      rcases List.mem_append.mp hp with hp | hp
      · exact Own.dom h1 p hp
      · exact OwnL.dom h2 p hp
end
theorem Own.ne {K : PySem.W.Frag} {S H : Hp} {t : T} {v : V} {F : List Addr} (h : Own K S H v t F) {p : Addr} (hp : p ∈ F) : H p ≠ none := by
  obtain ⟨o, e, _⟩ := h.dom p hp
  rw [e]
  exact fun z => nomatch z
theorem OwnL.len {K : PySem.W.Frag} {S H : Hp} : ∀ {ts : List T} {vs : List V} {F : List Addr}, OwnL K S H vs ts F → vs.length = ts.length
  | [], _, _, h => by cases h; rfl
  | t :: ts, _, _, h => by
    cases h with
    | cons h1 h2 h3 => rw [List.length_cons, List.length_cons, OwnL.len h2]
/-- all shared -/
theorem OwnL.sh {K : PySem.W.Frag} {S H : Hp} : ∀ {ds : List D} {vs : List V}, RepL K S vs ds → OwnL K S H vs (ds.map T.s) []
  | [], _, h => by cases h; exact .nil
  | d :: ds, _, h => by
    cases h with
    | cons h1 h2 => exact .cons (F := []) (G := []) (.s h1) (OwnL.sh h2) (fun _ z => nomatch z)
theorem OwnL.unsh {K : PySem.W.Frag} {S H : Hp} : ∀ {ds : List D} {vs : List V} {F : List Addr}, OwnL K S H vs (ds.map T.s) F → RepL K S vs ds ∧ F = []
  | [], _, _, h => by cases h; exact ⟨.nil, rfl⟩
  | d :: ds, _, _, h => by
    cases h with
    | cons h1 h2 h3 =>
      cases h1 with
      | s h1 =>
        obtain ⟨a, rfl⟩ := OwnL.unsh h2
        exact ⟨.cons h1 a, rfl⟩
/-- a child, and what may come into its place -/
theorem OwnL.focus {K : PySem.W.Frag} {S H : Hp} : ∀ {ts : List T} {vs : List V} {F : List Addr} {i : Nat} {t : T}, OwnL K S H vs ts F → ts[i]? = some t →
    ∃ v Fi, vs[i]? = some v ∧ Own K S H v t Fi ∧ (∀ p ∈ Fi, p ∈ F) ∧
      ∀ {S' H' : Hp} {v' : V} {t' : T} {F' : List Addr}, Ex S S' → (∀ p ∈ F, p ∉ Fi → H' p = H p) → Own K S' H' v' t' F' → (∀ p ∈ F', p ∈ F → p ∈ Fi) →
        ∃ G, OwnL K S' H' (vs.set i v') (ts.set i t') G ∧ (∀ p ∈ G, p ∈ F' ∨ (p ∈ F ∧ p ∉ Fi))
  | [], _, _, _, _, _, e => by simp at e
  | t :: ts, _, _, i, x, h, e => by
    cases h with
    | @cons v vs _ _ F G h1 h2 h3 =>
      cases i with
      | zero =>
        simp at e
        subst e
        refine ⟨v, F, rfl, h1, fun p hp => List.mem_append_left _ hp, fun {S' H' v' t' F'} hs hk ho hd => ?_⟩
        refine ⟨F' ++ G, .cons ho (h2.mono hs fun p hp => hk p (List.mem_append_right _ hp) fun z => h3 p z hp) fun p hp hg => h3 p (hd p hp (List.mem_append_right _ hg)) hg, fun p hp => ?_⟩
        rcases List.mem_append.mp hp with hp | hp
        · exact .inl hp
        · exact .inr ⟨List.mem_append_right _ hp, fun z => h3 p z hp⟩
      | succ i =>
        obtain ⟨w, Fi, q1, q2, q3, q4⟩ := OwnL.focus h2 (show ts[i]? = some x by simpa using e)
        refine ⟨w, Fi, by simpa using q1, q2, fun p hp => List.mem_append_right _ (q3 p hp), fun {S' H' v' t' F'} hs hk ho hd => ?_⟩
        have nF : ∀ p ∈ F, p ∉ Fi := fun p hp z => h3 p hp (q3 p z)
        obtain ⟨G', r1, r2⟩ := q4 hs (fun p hp hn => hk p (List.mem_append_right _ hp) hn) ho fun p hp hg => hd p hp (List.mem_append_right _ hg)
        refine ⟨F ++ G', .cons (h1.mono hs fun p hp => hk p (List.mem_append_left _ hp) (nF p hp)) r1 fun p hp hg => ?_, fun p hp => ?_⟩
        · rcases r2 p hg with z | ⟨z, _⟩
          · exact nF p hp (hd p z (List.mem_append_left _ hp))
          · exact h3 p hp z
        · rcases List.mem_append.mp hp with hp | hp
          · exact .inr ⟨List.mem_append_left _ hp, nF p hp⟩
          · rcases r2 p hp with z | ⟨z1, z2⟩
            · exact .inl z
            · exact .inr ⟨List.mem_append_right _ z1, z2⟩
end PL

/-! The pure layer, part 1: the slots' trees, how the state grows, the judgement of expressions. -/
namespace PL
open PySem L2

/-- a slot: unset; a tree that is its own (pinned: the object that came as an argument); one that a loop walks -/
inductive Cell where
  | un | own (pin : Option V) (t : T) | lk (F : List Addr) (t : T)
abbrev En := List Cell
def Cell.tr : Cell → Option T
  | .un => none
  | .own _ t => some t
  | .lk _ t => some t
def T.at : T → List Nat → Option T
  | t, [] => some t
  | .node _ ks, k :: π => (ks[k]?).bind fun c => c.at π
  | .s _, _ :: _ => none
def look (env : En) (i : Nat) (π : List Nat) : Option T := (env[i]?).bind fun c => c.tr.bind fun t => t.at π

def SlotOk (K : PySem.W.Frag) (S B H : Hp) : Cell → Option V → List Addr → Prop
  | .un, _, F => F = []
  | .own pin t, ov, F => ∃ v, ov = some v ∧ (∀ w, pin = some w → v = w) ∧ Own K S H v t F ∧ ∀ p ∈ F, B p = none
  | .lk F0 t, ov, F => F = F0 ∧ ∃ v, ov = some v ∧ Own K S H v t F ∧ ∀ p ∈ F, B p = H p ∧ S p = none
inductive SlotsOk (K : PySem.W.Frag) (S B H : Hp) : En → L2.St → List Addr → Prop
  | nil : SlotsOk K S B H [] [] []
  | cons {c : Cell} {ov : Option V} {cs : En} {σ : L2.St} {F G : List Addr} : SlotOk K S B H c ov F → SlotsOk K S B H cs σ G → (∀ p ∈ F, p ∉ G) → SlotsOk K S B H (c :: cs) (ov :: σ) (F ++ G)
structure SR (K : PySem.W.Frag) (S B H : Hp) (σ : L2.St) (env : En) : Prop where
  sb : Ex S B
  bh : Ex B H
  sl : ∃ G, SlotsOk K S B H env σ G

section
variable {K : PySem.W.Frag} {S B H S' B' H' : Hp} {σ : L2.St} {env : En} {G F : List Addr}
/-- how a footprint stays as it is -/
def Keeps (S B H S' B' H' : Hp) (p : Addr) : Prop := H' p = H p ∧ (B p = none → B' p = none) ∧ (B p = H p → S p = none → B' p = H' p ∧ S' p = none)
theorem SlotOk.mono {c : Cell} {ov : Option V} (e : Ex S S') (h : SlotOk K S B H c ov F) (k : ∀ p ∈ F, Keeps S B H S' B' H' p) : SlotOk K S' B' H' c ov F := by
  cases c with
  | un => exact h
  | own pin t =>
    obtain ⟨v, e1, e2, o, q⟩ := h
    exact ⟨v, e1, e2, o.mono e fun p hp => (k p hp).1, fun p hp => (k p hp).2.1 (q p hp)⟩
  | lk F0 t =>
    obtain ⟨eF, v, e1, o, q⟩ := h
    exact ⟨eF, v, e1, o.mono e fun p hp => (k p hp).1, fun p hp => (k p hp).2.2 (q p hp).1 (q p hp).2⟩
theorem SlotsOk.mono (e : Ex S S') : ∀ {env : En} {σ : L2.St} {G : List Addr}, SlotsOk K S B H env σ G → (∀ p ∈ G, Keeps S B H S' B' H' p) → SlotsOk K S' B' H' env σ G
  | _, _, _, .nil, _ => .nil
  | _, _, _, .cons h1 h2 h3, k => .cons (h1.mono e fun p hp => k p (List.mem_append_left _ hp)) (SlotsOk.mono e h2 fun p hp => k p (List.mem_append_right _ hp)) h3
theorem SlotOk.ne {c : Cell} {ov : Option V} (h : SlotOk K S B H c ov F) : ∀ p ∈ F, ∃ o, H p = some o ∧ Mut (some o) := by
  cases c with
  | un => intro p hp; cases h; cases hp
  | own pin t =>
    obtain ⟨v, e1, e2, o, q⟩ := h
    exact o.dom
  | lk F0 t =>
    obtain ⟨_, v, e1, o, q⟩ := h
    exact o.dom
theorem SlotsOk.ne : ∀ {env : En} {σ : L2.St} {G : List Addr}, SlotsOk K S B H env σ G → ∀ p ∈ G, ∃ o, H p = some o ∧ Mut (some o)
  | _, _, _, .nil, _, hp => nomatch hp
  | _, _, _, .cons h1 h2 h3, p, hp => (List.mem_append.mp hp).elim (h1.ne p) (SlotsOk.ne h2 p)
theorem SlotsOk.len : ∀ {env : En} {σ : L2.St} {G : List Addr}, SlotsOk K S B H env σ G → env.length = σ.length
  | _, _, _, .nil => rfl
  | _, _, _, .cons h1 h2 h3 => by rw [List.length_cons, List.length_cons, SlotsOk.len h2]
/-- one slot, and what may come into its place -/
theorem SlotsOk.focus : ∀ {env : En} {σ : L2.St} {G : List Addr} {i : Nat} {c : Cell}, SlotsOk K S B H env σ G → env[i]? = some c →
    ∃ ov F, σ[i]? = some ov ∧ SlotOk K S B H c ov F ∧ (∀ p ∈ F, p ∈ G) ∧
      ∀ {S' B' H' : Hp} {c' : Cell} {ov' : Option V} {F' : List Addr}, Ex S S' → (∀ p ∈ G, p ∉ F → Keeps S B H S' B' H' p) → SlotOk K S' B' H' c' ov' F' → (∀ p ∈ F', p ∈ G → p ∈ F) →
        ∃ G', SlotsOk K S' B' H' (env.set i c') (σ.set i ov') G' ∧ (∀ p ∈ G', p ∈ F' ∨ (p ∈ G ∧ p ∉ F))
  | _, _, _, _, _, .nil, e => by simp at e
  | _, _, _, i, x, @SlotsOk.cons _ _ _ _ c ov cs σ F G h1 h2 h3, e => by
    cases i with
    | zero =>
      simp at e
      subst e
      refine ⟨ov, F, rfl, h1, fun p hp => List.mem_append_left _ hp, fun {S' B' H' c' ov' F'} hs hk ho hd => ?_⟩
      refine ⟨F' ++ G, .cons ho (h2.mono hs fun p hp => hk p (List.mem_append_right _ hp) fun z => h3 p z hp) fun p hp hg => h3 p (hd p hp (List.mem_append_right _ hg)) hg, fun p hp => ?_⟩
      rcases List.mem_append.mp hp with hp | hp
      · exact .inl hp
      · exact .inr ⟨List.mem_append_right _ hp, fun z => h3 p z hp⟩
    | succ i =>
      obtain ⟨w, Fi, q1, q2, q3, q4⟩ := SlotsOk.focus h2 (show cs[i]? = some x by simpa using e)
      refine ⟨w, Fi, by simpa using q1, q2, fun p hp => List.mem_append_right _ (q3 p hp), fun {S' B' H' c' ov' F'} hs hk ho hd => ?_⟩
      have nF : ∀ p ∈ F, p ∉ Fi := fun p hp z => h3 p hp (q3 p z)
      obtain ⟨G', r1, r2⟩ := q4 hs (fun p hp hn => hk p (List.mem_append_right _ hp) hn) ho fun p hp hg => hd p hp (List.mem_append_right _ hg)
      refine ⟨F ++ G', .cons (h1.mono hs fun p hp => hk p (List.mem_append_left _ hp) (nF p hp)) r1 fun p hp hg => ?_, fun p hp => ?_⟩
      · rcases r2 p hg with z | ⟨z, _⟩
        · exact nF p hp (hd p z (List.mem_append_left _ hp))
        · exact h3 p hp z
      · rcases List.mem_append.mp hp with hp | hp
        · exact .inr ⟨List.mem_append_left _ hp, nF p hp⟩
        · rcases r2 p hp with z | ⟨z1, z2⟩
          · exact .inl z
          · exact .inr ⟨List.mem_append_right _ z1, z2⟩

/-- the shared part and the kept part grow -/
structure Evo (S B S' B' : Hp) : Prop where
  s : Ex S S'
  b : Ex B B'
  n : ∀ p, S' p ≠ none → S p = none → B p = none
theorem Evo.refl (S B : Hp) : Evo S B S B := ⟨.refl _, .refl _, fun p h e => absurd e h⟩
theorem ex_none {H H' : Hp} (e : Ex H H') {p : Addr} (h : H' p = none) : H p = none := e.free h
theorem Evo.trans {S1 B1 S2 B2 : Hp} (a : Evo S B S1 B1) (b : Evo S1 B1 S2 B2) : Evo S B S2 B2 := ⟨a.s.trans b.s, a.b.trans b.b, fun p h e => by
  cases q : S1 p with
  | none => exact ex_none a.b (b.n p h q)
  | some o => exact a.n p (by rw [q]; exact fun z => nomatch z) e⟩
/-- an expression has run: nothing is changed, new things have come -/
structure Gro (S B H S' B' H' : Hp) : Prop where
  h : Ex H H'
  e : Evo S B S' B'
  n : ∀ p, B' p ≠ none → B p = none → H p = none
  sb : Ex S' B'
  bh : Ex B' H'
theorem Gro.refl (sb : Ex S B) (bh : Ex B H) : Gro S B H S B H := ⟨.refl _, .refl _ _, fun p h e => absurd e h, sb, bh⟩
theorem Gro.trans {S1 B1 H1 S2 B2 H2 : Hp} (a : Gro S B H S1 B1 H1) (b : Gro S1 B1 H1 S2 B2 H2) : Gro S B H S2 B2 H2 := ⟨a.h.trans b.h, a.e.trans b.e, fun p h e => by
  cases q : B1 p with
  | none => exact ex_none a.h (b.n p h q)
  | some o => exact a.n p (by rw [q]; exact fun z => nomatch z) e, b.sb, b.bh⟩
theorem Gro.keeps (g : Gro S B H S' B' H') {p : Addr} {o : HO} (h : H p = some o) : Keeps S B H S' B' H' p := by
  have hn : B p = none → B' p = none := fun e => by
    cases q : B' p with
    | none => rfl
    | some u =>
      have z := g.n p (by rw [q]; exact fun z => nomatch z) e
      rw [h] at z
      cases z
  refine ⟨by rw [h]; exact g.h p o h, hn, fun e1 e2 => ⟨?_, ?_⟩⟩
  · rw [g.h p o h]
    exact g.e.b p o (by rw [e1]; exact h)
  · cases q : S' p with
    | none => rfl
    | some u =>
      have z := g.e.n p (by rw [q]; exact fun z => nomatch z) e2
      rw [e1, h] at z
      cases z
theorem SR.gro (r : SR K S B H σ env) (g : Gro S B H S' B' H') : SR K S' B' H' σ env := by
  obtain ⟨G, sl⟩ := r.sl
  refine ⟨g.sb, g.bh, G, sl.mono g.e.s fun p hp => ?_⟩
  obtain ⟨o, e, _⟩ := sl.ne p hp
  exact g.keeps e
theorem SR.sh (r : SR K S B H σ env) : Ex S H := r.sb.trans r.bh
/-- a new object, owned by whoever made it: only H grows -/
theorem Gro.new {p : Addr} {o : HO} (sb : Ex S B) (bh : Ex B H) (hp : H p = none) : Gro S B H S B (upd H p o) := ⟨ex_new hp, .refl _ _, fun q h e => absurd e h, sb, bh.trans (ex_new hp)⟩
theorem ex_upd2 {p : Addr} {o : HO} (e : Ex S B) (h : S p = none) : Ex (upd S p o) (upd B p o) := fun a u q => by
  by_cases ha : a = p
  · subst ha
    rw [upd_same] at q ⊢
    exact q
  · rw [upd_ne ha] at q ⊢
    exact e a u q
/-- a new object, shared from the start -/
theorem Gro.newS {p : Addr} {o : HO} (sb : Ex S B) (bh : Ex B H) (hp : H p = none) : Gro S B H (upd S p o) (upd B p o) (upd H p o) := by
  have hB : B p = none := ex_none bh hp
  have hS : S p = none := ex_none sb hB
  refine ⟨ex_new hp, ⟨ex_new hS, ex_new hB, fun q h e => ?_⟩, fun q h e => ?_, ex_upd2 sb hS, ex_upd2 bh hB⟩
  · by_cases hq : q = p
    · subst hq; exact hB
    · rw [upd_ne hq] at h
      exact absurd e h
  · by_cases hq : q = p
    · subst hq; exact hp
    · rw [upd_ne hq] at h
      exact absurd e h
/-- the part F of H joined to S -/
def joinF (S H : Hp) (F : List Addr) : Hp := fun p => if p ∈ F then H p else S p
theorem joinF_in {p : Addr} (h : p ∈ F) : joinF S H F p = H p := by unfold joinF; rw [if_pos h]
theorem joinF_out {p : Addr} (h : p ∉ F) : joinF S H F p = S p := by unfold joinF; rw [if_neg h]
theorem ex_joinF (e : Ex S H) : Ex S (joinF S H F) := fun a u q => by
  by_cases h : a ∈ F
  · rw [joinF_in h]; exact e a u q
  · rw [joinF_out h]; exact q
theorem joinF_ex (e : Ex S H) : Ex (joinF S H F) H := fun a u q => by
  by_cases h : a ∈ F
  · rw [joinF_in h] at q; exact q
  · rw [joinF_out h] at q; exact e a u q
theorem joinF_two (e : Ex S B) : Ex (joinF S H F) (joinF B H F) := fun a u q => by
  by_cases h : a ∈ F
  · rw [joinF_in h] at q ⊢; exact q
  · rw [joinF_out h] at q ⊢; exact e a u q
end

/-! ### paths -/
def kidsV : HO → List V
  | .lst vs => vs
  | .tup vs => vs
  | .dK kvs => kvs.map (·.2)
  | .dT kvs => kvs.map (·.2)
  | .ins _ _ fs => fs.map (·.2)
  | _ => []
theorem zip_snd {α β : Type} : ∀ {a : List α} {b : List β}, a.length = b.length → (a.zip b).map (·.2) = b
  | [], [], _ => rfl
  | [], _ :: _, h => by cases h
  | _ :: _, [], h => by cases h
  | _ :: a, y :: b, h => by
    rw [List.zip_cons_cons, List.map_cons, zip_snd (by simpa using h)]
theorem ShO.kids {vs : List V} {o : HO} : ∀ {sh : Shape}, ShO sh vs o → kidsV o = vs
  | .lst, h => by cases h; rfl
  | .tup, h => h.elim
  | .ro, h => h.elim
  | .dK _, h => by obtain ⟨e, rfl, _⟩ := h; exact zip_snd e
  | .dT _, h => by obtain ⟨e, rfl, _⟩ := h; exact zip_snd e
  | .obj _ _, h => by obtain ⟨e, _, rfl⟩ := h; exact zip_snd e
def At (H : Hp) : V → List Nat → V → Prop
  | v, [], w => v = w
  | v, k :: π, w => ∃ p o u, v = .ref p ∧ H p = some o ∧ (kidsV o)[k]? = some u ∧ At H u π w
theorem At.mono {H H' : Hp} (e : Ex H H') : ∀ {π : List Nat} {v w : V}, At H v π w → At H' v π w
  | [], _, _, h => h
  | _ :: π, _, _, ⟨p, o, u, e1, e2, e3, h⟩ => ⟨p, o, u, e1, e _ _ e2, e3, At.mono e h⟩
theorem At.inj {H : Hp} : ∀ {π : List Nat} {v w w' : V}, At H v π w → At H v π w' → w = w'
  | [], _, _, _, h, h' => h.symm.trans h'
  | _ :: π, _, _, _, ⟨p, o, u, e1, e2, e3, h⟩, ⟨p', o', u', e1', e2', e3', h'⟩ => by
    subst e1
    cases e1'
    rw [e2] at e2'
    cases e2'
    rw [e3] at e3'
    cases e3'
    exact At.inj h h'
theorem At.snoc {H : Hp} : ∀ {π : List Nat} {v w : V} {k : Nat} {p : Addr} {o : HO} {u : V}, At H v π w → w = .ref p → H p = some o → (kidsV o)[k]? = some u → At H v (π ++ [k]) u
  | [], _, _, _, p, o, u, h, e1, e2, e3 => by
    subst h
    exact ⟨p, o, u, e1, e2, e3, rfl⟩
  | _ :: π, _, _, _, p, o, u, ⟨p', o', u', a, b, c, h⟩, e1, e2, e3 => ⟨p', o', u', a, b, c, At.snoc h e1 e2 e3⟩
/-- an owned tree at a path, and what may come there -/
theorem Own.path {K : PySem.W.Frag} {S H : Hp} : ∀ {π : List Nat} {t t' : T} {v : V} {F : List Addr}, Own K S H v t F → t.at π = some t' → ∃ w F', At H v π w ∧ Own K S H w t' F' ∧ ∀ p ∈ F', p ∈ F
  | [], t, t', v, F, h, e => by
    have e' : t = t' := by cases t <;> exact Option.some.inj e
    subst e'
    exact ⟨v, F, rfl, h, fun _ hp => hp⟩
  | k :: π, t, t', v, F, h, e => by
    cases h with
    | s h => cases e
    | @node p o sh vs ts G h1 h2 h3 h4 h5 =>
      have e' : (ts[k]?).bind (fun c => c.at π) = some t' := e
      cases q : ts[k]? with
      | none => rw [q] at e'; cases e'
      | some c =>
        rw [q] at e'
        obtain ⟨u, Fi, a1, a2, a3, _⟩ := h4.focus q
        obtain ⟨w, F', b1, b2, b3⟩ := Own.path a2 e'
        exact ⟨w, F', ⟨p, o, u, rfl, h1, by rw [h2.kids]; exact a1, b1⟩, b2, fun x hx => .tail _ (a3 x (b3 x hx))⟩

/-! ### results of expressions -/
inductive R where
  | va (t : T) | bo (i : Nat) (π : List Nat)
def R.tr (env : En) : R → Option T
  | .va t => some t
  | .bo i π => look env i π
def RR (K : PySem.W.Frag) (S' B' H H' : Hp) (σ : L2.St) (v : V) : R → Prop
  | .va t => ∃ F, Own K S' H' v t F ∧ ∀ p ∈ F, H p = none ∧ B' p = none
  | .bo i π => ∃ v0, σ[i]? = some (some v0) ∧ At H' v0 π v
section
variable {K : PySem.W.Frag} {S B H S' B' H' S1 B1 H1 : Hp} {σ : L2.St} {env : En} {v : V} {r : R} {t : T}
theorem RR.sc {d : D} (h : Rep K S' v d) : RR K S' B' H H' σ v (.va (.s d)) := ⟨[], .s h, fun _ z => nomatch z⟩
/-- a result stays while more is made -/
theorem RR.gro (h : RR K S1 B1 H H1 σ v r) (a : Ex H H1) (g : Gro S1 B1 H1 S' B' H') : RR K S' B' H H' σ v r := by
  cases r with
  | va t =>
    obtain ⟨F, o, q⟩ := h
    refine ⟨F, o.mono g.e.s fun p hp => ?_, fun p hp => ⟨(q p hp).1, ?_⟩⟩
    · obtain ⟨ob, e, _⟩ := o.dom p hp
      exact (g.keeps e).1
    · obtain ⟨ob, e, _⟩ := o.dom p hp
      exact (g.keeps e).2.1 (q p hp).2
  | bo i π =>
    obtain ⟨v0, e, q⟩ := h
    exact ⟨v0, e, q.mono g.h⟩
/-- what a result is, as it stands; where it is its own, its footprint is new -/
theorem RR.get (h : RR K S' B' H H' σ v r) (sr : SR K S' B' H' σ env) (e : r.tr env = some t) :
    ∃ F, Own K S' H' v t F ∧ ((∃ t, r = .va t) → ∀ p ∈ F, H p = none ∧ B' p = none) := by
  cases r with
  | va u =>
    cases e
    obtain ⟨F, o, q⟩ := h
    exact ⟨F, o, fun _ => q⟩
  | bo i π =>
    obtain ⟨v0, e0, q⟩ := h
    obtain ⟨G, sl⟩ := sr.sl
    have e' : (env[i]?).bind (fun c => c.tr.bind fun t => t.at π) = some t := e
    cases hc : env[i]? with
    | none => rw [hc] at e'; cases e'
    | some c =>
      rw [hc] at e'
      obtain ⟨ov, F, s1, s2, s3, _⟩ := sl.focus hc
      rw [e0] at s1
      cases s1
      cases c with
      | un => cases e'
      | own pin u =>
        obtain ⟨v', z1, z2, o, z3⟩ := s2
        cases z1
        obtain ⟨w, F', a1, a2, a3⟩ := o.path (show u.at π = some t from e')
        cases a1.inj q
        exact ⟨F', a2, fun ⟨_, z⟩ => nomatch z⟩
      | lk F0 u =>
        obtain ⟨_, v', z1, o, z3⟩ := s2
        cases z1
        obtain ⟨w, F', a1, a2, a3⟩ := o.path (show u.at π = some t from e')
        cases a1.inj q
        exact ⟨F', a2, fun ⟨_, z⟩ => nomatch z⟩
theorem RR.rep (h : RR K S' B' H H' σ v r) (sr : SR K S' B' H' σ env) (e : r.tr env = some t) : Rep K H' v t.er := by
  obtain ⟨F, o, _⟩ := h.get sr e
  exact o.rep sr.sh
end

/-! ### the judgement of expressions -/
abbrev PX := En → (R → Prop) → Prop
abbrev Mono (p : PX) : Prop := ∀ (env : En) {P Q : R → Prop}, (∀ r, P r → Q r) → p env P → p env Q
def tD (K : PySem.W.Frag) (p : PX) : TE := fun σ H Q => ∃ S B env, SR K S B H σ env ∧ p env fun r => ∀ S' B' v H', Gro S B H S' B' H' → RR K S' B' H H' σ v r → Q v H'
structure PD (X : Cx) (e : Expr) (p : PX) : Prop where
  run : PE X e (tD X.K p)
  mono : Mono p
theorem PE.weak {X : Cx} {e : Expr} {t t' : TE} (h : PE X e t) (w : ∀ σ H Q, t' σ H Q → t σ H Q) : PE X e t' := ⟨fun pins s σ H Q I q => h.run pins s σ H Q I (w _ _ _ q)⟩
abbrev PB := En → (Bool → Prop) → Prop
abbrev MonoB (p : PB) : Prop := ∀ (env : En) {P Q : Bool → Prop}, (∀ r, P r → Q r) → p env P → p env Q
def tDT (K : PySem.W.Frag) (p : PB) : TT := fun σ H Q => ∃ S B env, SR K S B H σ env ∧ p env fun b => ∀ S' B' H', Gro S B H S' B' H' → Q b H'
structure PDT (X : Cx) (e : Expr) (p : PB) : Prop where
  run : PT X e (tDT X.K p)
  mono : MonoB p
theorem PT.weak {X : Cx} {e : Expr} {t t' : TT} (h : PT X e t) (w : ∀ σ H Q, t' σ H Q → t σ H Q) : PT X e t' := ⟨fun pins s σ H Q I q => h.run pins s σ H Q I (w _ _ _ q)⟩
abbrev PAs := En → (List R → Prop) → Prop
abbrev MonoA (p : PAs) : Prop := ∀ (env : En) {P Q : List R → Prop}, (∀ r, P r → Q r) → p env P → p env Q
inductive RRs (K : PySem.W.Frag) (S' B' H H' : Hp) (σ : L2.St) : List V → List R → List Addr → Prop
  | nil : RRs K S' B' H H' σ [] [] []
  | consT {v : V} {vs : List V} {t : T} {rs : List R} {F G : List Addr} : Own K S' H' v t F → (∀ p ∈ F, H p = none ∧ B' p = none) → RRs K S' B' H H' σ vs rs G → (∀ p ∈ F, p ∉ G) → RRs K S' B' H H' σ (v :: vs) (.va t :: rs) (F ++ G)
  | consB {v v0 : V} {vs : List V} {i : Nat} {π : List Nat} {rs : List R} {G : List Addr} : σ[i]? = some (some v0) → At H' v0 π v → RRs K S' B' H H' σ vs rs G → RRs K S' B' H H' σ (v :: vs) (.bo i π :: rs) G
def tDA (K : PySem.W.Frag) (p : PAs) : TA := fun σ H Q => ∃ S B env, SR K S B H σ env ∧ p env fun rs => ∀ S' B' vs H' G, Gro S B H S' B' H' → RRs K S' B' H H' σ vs rs G → Q vs H'
structure PDA (X : Cx) (es : List Expr) (p : PAs) : Prop where
  run : PA X es (tDA X.K p)
  mono : MonoA p
theorem PA.weak {X : Cx} {e : List Expr} {t t' : TA} (h : PA X e t) (w : ∀ σ H Q, t' σ H Q → t σ H Q) : PA X e t' := ⟨fun pos pins s σ H Q I q => h.run pos pins s σ H Q I (w _ _ _ q)⟩
section
variable {K : PySem.W.Frag} {S B H S' B' H' S1 B1 H1 : Hp} {σ : L2.St} {env : En} {v : V} {r : R} {t : T}
theorem RRs.dom : ∀ {vs : List V} {rs : List R} {G : List Addr}, RRs K S' B' H H' σ vs rs G → ∀ p ∈ G, ∃ o, H' p = some o ∧ H p = none ∧ B' p = none
  | _, _, _, .nil, _, hp => nomatch hp
  | _, _, _, .consT o q h d, p, hp => (List.mem_append.mp hp).elim (fun z => let ⟨u, e, _⟩ := o.dom p z; ⟨u, e, (q p z).1, (q p z).2⟩) (RRs.dom h p)
  | _, _, _, .consB _ _ h, p, hp => RRs.dom h p hp
theorem RRs.gro : ∀ {vs : List V} {rs : List R} {G : List Addr}, RRs K S1 B1 H H1 σ vs rs G → Gro S1 B1 H1 S' B' H' → RRs K S' B' H H' σ vs rs G
  | _, _, _, .nil, _ => .nil
  | _, _, _, .consT o q h d, g => .consT (o.mono g.e.s fun p hp => let ⟨_, e, _⟩ := o.dom p hp; (g.keeps e).1) (fun p hp => ⟨(q p hp).1, let ⟨_, e, _⟩ := o.dom p hp; (g.keeps e).2.1 (q p hp).2⟩) (RRs.gro h g) d
  | _, _, _, .consB e q h, g => .consB e (q.mono g.h) (RRs.gro h g)
theorem RRs.len : ∀ {vs : List V} {rs : List R} {G : List Addr}, RRs K S1 B1 H H1 σ vs rs G → vs.length = rs.length
  | _, _, _, .nil => rfl
  | _, _, _, .consT _ _ h _ => by rw [List.length_cons, List.length_cons, RRs.len h]
  | _, _, _, .consB _ _ h => by rw [List.length_cons, List.length_cons, RRs.len h]
/-- the entry heap may be taken earlier -/
theorem RRs.early : ∀ {vs : List V} {rs : List R} {G : List Addr} {H0 : Hp}, RRs K S1 B1 H H1 σ vs rs G → Ex H0 H → RRs K S1 B1 H0 H1 σ vs rs G
  | _, _, _, _, .nil, _ => .nil
  | _, _, _, _, .consT o q h d, e => .consT o (fun p hp => ⟨ex_none e (q p hp).1, (q p hp).2⟩) (RRs.early h e) d
  | _, _, _, _, .consB a b h, e => .consB a b (RRs.early h e)
theorem RR.early {H0 : Hp} (h : RR K S1 B1 H H1 σ v r) (e : Ex H0 H) : RR K S1 B1 H0 H1 σ v r := by
  cases r with
  | va t =>
    obtain ⟨F, o, q⟩ := h
    exact ⟨F, o, fun p hp => ⟨ex_none e (q p hp).1, (q p hp).2⟩⟩
  | bo i π => exact h
end

/-! ### names, constants, argument lists -/
section
variable {X : Cx} {e : Expr} {es : List Expr}
def pVar (i : Nat) : PX := fun env k => match env[i]? with
  | some (.own _ (.s d)) => k (.va (.s d))
  | some (.own _ (.node _ _)) => k (.bo i [])
  | some (.lk _ (.s d)) => k (.va (.s d))
  | some (.lk _ (.node _ _)) => k (.bo i [])
  | _ => False
theorem d_var {i : Nat} (h : PE X e (tVar i)) : PD X e (pVar i) := by
  refine ⟨PE.weak h fun σ H Q ⟨S, B, env, sr, q⟩ => ?_, fun env P Q f h => ?_⟩
  · obtain ⟨G, sl⟩ := sr.sl
    unfold pVar at q
    cases hc : env[i]? with
    | none => rw [hc] at q; exact q.elim
    | some c =>
      rw [hc] at q
      obtain ⟨ov, F, s1, s2, s3, _⟩ := sl.focus hc
      have g := Gro.refl sr.sb sr.bh
      cases c with
      | un => exact q.elim
      | own pin t =>
        obtain ⟨v, rfl, z2, o, z3⟩ := s2
        cases t with
        | s d =>
          cases o with
          | s o => exact ⟨v, s1, q S B v H g (RR.sc o)⟩
        | node sh ks => exact ⟨v, s1, q S B v H g ⟨v, s1, rfl⟩⟩
      | lk F0 t =>
        obtain ⟨_, v, rfl, o, z3⟩ := s2
        cases t with
        | s d =>
          cases o with
          | s o => exact ⟨v, s1, q S B v H g (RR.sc o)⟩
        | node sh ks => exact ⟨v, s1, q S B v H g ⟨v, s1, rfl⟩⟩
  · unfold pVar at h ⊢
    split <;> simp_all
def pC (d : D) : PX := fun _ k => k (.va (.s d))
theorem d_c {v : V} {d : D} (h : PE X e (tC v)) (r : ∀ K S, Rep K S v d) : PD X e (pC d) :=
  ⟨PE.weak h fun σ H Q ⟨S, B, env, sr, q⟩ => q S B v H (Gro.refl sr.sb sr.bh) (RR.sc (r _ _)), fun env P Q f h => f _ h⟩
theorem d_int {i j pos} : PD X (.Constant (.int i) j pos) (pC (.int i)) := d_c pe_int fun _ _ => .int i
theorem d_bl {i j pos} : PD X (.Constant (.bool i) j pos) (pC (.bl i)) := d_c pe_bl fun _ _ => .bl i
theorem d_str {i j pos} : PD X (.Constant (.str i) j pos) (pC (.str i)) := d_c pe_str fun _ _ => .str i
theorem d_non {j pos} : PD X (.Constant .none j pos) (pC .non) := d_c pe_non fun _ _ => .non
def pNil : PAs := fun _ k => k []
def pCons (p : PX) (q : PAs) : PAs := fun env k => p env fun r => q env fun rs => k (r :: rs)
theorem da_nil : PDA X [] pNil := ⟨PA.weak pa_nil fun σ H Q ⟨S, B, env, sr, q⟩ => q S B [] H [] (Gro.refl sr.sb sr.bh) .nil, fun env P Q f h => f _ h⟩
theorem da_cons {p : PX} {q : PAs} (h : PD X e p) (hs : PDA X es q) (hst : starEach (e :: es) X.env = (false, eval e X.env) :: starEach es X.env := by rfl) : PDA X (e :: es) (pCons p q) := by
  refine ⟨PA.weak (pa_cons h.run hs.run hst) fun σ H Q ⟨S, B, env, sr, z⟩ => ?_, fun env P Q f z => h.mono env (fun r z => hs.mono env (fun rs z => f _ z) z) z⟩
  refine ⟨S, B, env, sr, h.mono env (fun r z S1 B1 v H1 g1 r1 => ?_) z⟩
  refine ⟨S1, B1, env, sr.gro g1, hs.mono env (fun rs z S2 B2 vs H2 G g2 r2 => ?_) z⟩
  cases r with
  | va t =>
    obtain ⟨F, o, d⟩ := r1
    refine z S2 B2 (v :: vs) H2 (F ++ G) (g1.trans g2) (.consT (o.mono g2.e.s fun p hp => let ⟨_, e, _⟩ := o.dom p hp; (g2.keeps e).1) (fun p hp => ⟨(d p hp).1, let ⟨_, e, _⟩ := o.dom p hp; (g2.keeps e).2.1 (d p hp).2⟩) (r2.early g1.h) fun p hp hg => ?_)
    obtain ⟨u, e, _⟩ := o.dom p hp
    obtain ⟨_, _, e2, _⟩ := r2.dom p hg
    rw [e] at e2
    cases e2
  | bo i π =>
    obtain ⟨v0, e0, a⟩ := r1
    exact z S2 B2 (v :: vs) H2 G (g1.trans g2) (.consB e0 (a.mono g2.h) (r2.early g1.h))
end
end PL

/-! The pure layer, part 2: operators, tests, displays, built-in calls. -/
namespace PL
open PySem L2

/-! ### operators whose result is no object -/
/-- d is no object: it is represented everywhere -/
def RepA (v : V) (d : D) : Prop := ∀ K S, Rep K S v d
def Sc2 (K : PySem.W.Frag) (r : R2) (g : D → D → (D → Prop) → Prop) : Prop :=
  ∀ (H : Hp) (x y : V) (d e : D) (k : D → Prop) (Q : VK), Rep K H x d → Rep K H y e → g d e k → (∀ v a, RepA v a → k a → Q v H) → r x y H Q
abbrev MonoG {α β : Type} (g : α → α → (β → Prop) → Prop) : Prop := ∀ (x y : α) {P Q : β → Prop}, (∀ b, P b → Q b) → g x y P → g x y Q
def p2 (g : D → D → (D → Prop) → Prop) (pa pb : PX) : PX := fun env k => pa env fun ra => pb env fun rb => ∃ a b, ra.tr env = some a ∧ rb.tr env = some b ∧ g a.er b.er fun d => k (.va (.s d))
section
variable {X : Cx} {a b c e : Expr} {es : List Expr} {pos : Pos} {pa pb pc p : PX}
theorem two {r : R2} {g : D → D → (D → Prop) → Prop} (sc : Sc2 X.K r g) (mg : MonoG g) (ha : PD X a pa) (hb : PD X b pb) (σ : L2.St) (H : Hp) (Q : VK) (h : tD X.K (p2 g pa pb) σ H Q) : tOp r (tD X.K pa) (tD X.K pb) σ H Q := by
  obtain ⟨S, B, env, sr, q⟩ := h
  refine ⟨S, B, env, sr, ha.mono env (fun ra q S1 B1 v1 H1 g1 r1 => ?_) q⟩
  refine ⟨S1, B1, env, sr.gro g1, hb.mono env (fun rb q S2 B2 v2 H2 g2 r2 => ?_) q⟩
  obtain ⟨ta, tb, ea, eb, q⟩ := q
  have sr2 := (sr.gro g1).gro g2
  exact sc H2 v1 v2 _ _ _ _ ((r1.gro g1.h g2).rep sr2 ea) (r2.rep sr2 eb) q fun v d rd q => q S2 B2 v H2 (g1.trans g2) (RR.sc (rd _ _))
theorem two_mono {g : D → D → (D → Prop) → Prop} (mg : MonoG g) (ha : PD X a pa) (hb : PD X b pb) : Mono (p2 g pa pb) := fun env P Q f h =>
  ha.mono env (fun ra h => hb.mono env (fun rb ⟨ta, tb, ea, eb, q⟩ => ⟨ta, tb, ea, eb, mg _ _ (fun d q => f _ q) q⟩) h) h
theorem d_op {op : Operator} {r : R2} {g : D → D → (D → Prop) → Prop} (ho : OpR X (binaryOp op) r) (sc : Sc2 X.K r g) (mg : MonoG g) (ha : PD X a pa) (hb : PD X b pb) : PD X (.BinOp a op b pos) (p2 g pa pb) :=
  ⟨PE.weak (pe_op ho ha.run hb.run) (two sc mg ha hb), two_mono mg ha hb⟩
theorem d_cmp {op : CmpOp} {r : R2} {g : D → D → (D → Prop) → Prop} (ho : OpR X (compareOp op) r) (sc : Sc2 X.K r g) (mg : MonoG g) (ha : PD X a pa) (hb : PD X b pb) (hm : behindInMarks op b = false) : PD X (.Compare a [op] [b] pos) (p2 g pa pb) :=
  ⟨PE.weak (pe_cmpR ho ha.run hb.run hm) (two sc mg ha hb), two_mono mg ha hb⟩
/-- as a test -/
def p2T (g : D → D → (D → Prop) → Prop) (pa pb : PX) : PB := fun env k => pa env fun ra => pb env fun rb => ∃ a b, ra.tr env = some a ∧ rb.tr env = some b ∧ g a.er b.er fun d => ∃ c, d = .bl c ∧ k c
theorem t_cmp {op : CmpOp} {r : R2} {g : D → D → (D → Prop) → Prop} (ho : OpR X (compareOp op) r) (sc : Sc2 X.K r g) (mg : MonoG g) (ha : PD X a pa) (hb : PD X b pb) (hm : behindInMarks op b = false) : PDT X (.Compare a [op] [b] pos) (p2T g pa pb) := by
  refine ⟨PT.weak (pt_cmpR ho ha.run hb.run hm) fun σ H Q ⟨S, B, env, sr, q⟩ => ?_, fun env P Q f h => ?_⟩
  · refine two sc mg ha hb σ H _ ⟨S, B, env, sr, ha.mono env (fun ra q => hb.mono env (fun rb ⟨ta, tb, ea, eb, q⟩ => ⟨ta, tb, ea, eb, mg _ _ (fun d ⟨c, e, q⟩ => ?_) q⟩) q) q⟩
    subst e
    intro S' B' v H' g r
    obtain ⟨F, o, _⟩ := r
    cases o with
    | s o =>
      cases o
      exact ⟨c, rfl, q S' B' H' g⟩
  · exact ha.mono env (fun ra h => hb.mono env (fun rb ⟨ta, tb, ea, eb, q⟩ => ⟨ta, tb, ea, eb, mg _ _ (fun d ⟨c, e, q⟩ => ⟨c, e, f _ q⟩) q⟩) h) h
end

theorem repA_int (i : Int) : RepA (.int i) (.int i) := fun _ _ => .int i
theorem repA_bl (i : Bool) : RepA (.bl i) (.bl i) := fun _ _ => .bl i
theorem repA_str (i : Str) : RepA (.str i) (.str i) := fun _ _ => .str i
theorem repA_non : RepA .non .non := fun _ _ => .non

/-! ### arithmetic -/
def gSubI : D → D → (D → Prop) → Prop
  | .int i, .int j, k => k (.int (i - j))
  | _, _, _ => False
def gDiv : D → D → (D → Prop) → Prop
  | .int i, .int j, k => (0 < j ∧ j ≤ 4611686018427387904) ∧ k (.int (i / j))
  | _, _, _ => False
def gMod : D → D → (D → Prop) → Prop
  | .int i, .int j, k => 0 < j ∧ k (.int (i % j))
  | _, _, _ => False
def gPow : D → D → (D → Prop) → Prop
  | .int i, .int j, k => (0 ≤ j ∧ j ≤ 1000 ∧ -18446744073709551616 < i ∧ i < 18446744073709551616) ∧ k (.int (i ^ j.toNat))
  | _, _, _ => False
theorem mono_sub : MonoG gSubI := fun x y P Q f h => by unfold gSubI at h ⊢; split <;> simp_all
theorem mono_div : MonoG gDiv := fun x y P Q f h => by unfold gDiv at h ⊢; split <;> simp_all
theorem mono_mod : MonoG gMod := fun x y P Q f h => by unfold gMod at h ⊢; split <;> simp_all
theorem mono_pow : MonoG gPow := fun x y P Q f h => by unfold gPow at h ⊢; split <;> simp_all
section
variable {K : PySem.W.Frag}
theorem sc_sub : Sc2 K (rI0 fun i j => .int (i - j)) gSubI := fun H x y d e k Q hx hy h q => by
  cases d <;> try exact h.elim
  cases e <;> try exact h.elim
  cases hx
  cases hy
  exact ⟨_, _, rfl, rfl, q _ _ (repA_int _) h⟩
theorem sc_mod : Sc2 K (rI (fun _ j => 0 < j) fun i j => .int (i % j)) gMod := fun H x y d e k Q hx hy h q => by
  cases d <;> try exact h.elim
  cases e <;> try exact h.elim
  cases hx
  cases hy
  exact ⟨_, _, rfl, rfl, h.1, q _ _ (repA_int _) h.2⟩
theorem sc_div : Sc2 K (rI CDivW fun i j => .int (i / j)) gDiv := fun H x y d e k Q hx hy h q => by
  cases d <;> try exact h.elim
  cases e <;> try exact h.elim
  rename_i i j
  cases hx
  cases hy
  obtain ⟨⟨h1, h2⟩, h⟩ := h
  exact ⟨_, _, rfl, rfl, wide_div (b := 63) h1 (by omega) (by decide) (by decide), q _ _ (repA_int _) h⟩
theorem sc_pow : Sc2 K (rI CPow fun i j => .int (i ^ j.toNat)) gPow := fun H x y d e k Q hx hy h q => by
  cases d <;> try exact h.elim
  cases e <;> try exact h.elim
  rename_i i j
  cases hx
  cases hy
  obtain ⟨⟨h1, h2, h3, h4⟩, h⟩ := h
  exact ⟨_, _, rfl, rfl, ⟨h1, by omega, by omega⟩, q _ _ (repA_int _) h⟩
end

/-! ### comparisons -/
mutual
def D.py : D → PyData
  | .non => .none
  | .bl b => .bool b
  | .int i => .int i
  | .str x => .str x
  | .node sh ks => match sh with
    | .lst => .list (pys ks)
    | .tup => .tuple (pys ks)
    | _ => .dict []
def pys : List D → List PyData
  | [] => []
  | d :: ds => d.py :: pys ds
end
theorem pys_map : ∀ ds : List D, pys ds = ds.map D.py
  | [] => rfl
  | d :: ds => by show d.py :: pys ds = _; rw [pys_map ds]; rfl
/-! plain data of depth at most n: None, bools, ints, texts, lists and tuples of such -/
mutual
def shp : Nat → D → Bool
  | _, .non => true
  | _, .bl _ => true
  | _, .int _ => true
  | _, .str x => PyData.canLay0 (.str x)
  | n, .node sh ks => match sh, n with
    | .lst, n + 1 => shpL n ks
    | .tup, n + 1 => shpL n ks
    | _, _ => false
def shpL : Nat → List D → Bool
  | _, [] => true
  | n, d :: ds => shp n d && shpL n ds
end
theorem shpL_all (n : Nat) : ∀ ds : List D, shpL n ds = ds.all (shp n)
  | [] => rfl
  | d :: ds => by show (shp n d && shpL n ds) = _; rw [shpL_all n ds]; rfl
mutual
theorem shp_py : ∀ (d : D) (n : Nat), shp n d = true → PyData.canLay0 d.py = true ∧ d.py.depth ≤ n
  | .non, n, _ => ⟨rfl, Nat.zero_le _⟩
  | .bl _, n, _ => ⟨rfl, Nat.zero_le _⟩
  | .int _, n, _ => ⟨rfl, Nat.zero_le _⟩
  | .str x, n, h => ⟨by simpa [shp, D.py] using h, Nat.zero_le _⟩
  | .node .lst ks, 0, h => by simp [shp] at h
  | .node .lst ks, n + 1, h => by
    obtain ⟨a, b⟩ := shpL_py ks n (by simpa [shp] using h)
    refine ⟨?_, ?_⟩
    · show PyData.canLay0 (.list (pys ks)) = true
      simpa [PyData.canLay0] using a
    · show PyData.depth (.list (pys ks)) ≤ n + 1
      simp only [PyData.depth]
      omega
  | .node .tup ks, 0, h => by simp [shp] at h
  | .node .tup ks, n + 1, h => by
    obtain ⟨a, b⟩ := shpL_py ks n (by simpa [shp] using h)
    refine ⟨?_, ?_⟩
    · show PyData.canLay0 (.tuple (pys ks)) = true
      simpa [PyData.canLay0] using a
    · show PyData.depth (.tuple (pys ks)) ≤ n + 1
      simp only [PyData.depth]
      omega
  | .node .ro ks, n, h => by simp [shp] at h
  | .node (.dK _) ks, n, h => by simp [shp] at h
  | .node (.dT _) ks, n, h => by simp [shp] at h
  | .node (.obj _ _) ks, n, h => by simp [shp] at h
theorem shpL_py : ∀ (ds : List D) (n : Nat), shpL n ds = true → PyData.canLayAll0 (pys ds) = true ∧ PyData.depthAll (pys ds) ≤ n
  | [], n, _ => ⟨rfl, Nat.zero_le _⟩
  | d :: ds, n, h => by
    have h' : shp n d = true ∧ shpL n ds = true := by simpa [shpL] using h
    obtain ⟨a, b⟩ := shp_py d n h'.1
    obtain ⟨a', b'⟩ := shpL_py ds n h'.2
    refine ⟨?_, ?_⟩
    · show PyData.canLayAll0 (d.py :: pys ds) = true
      simp [PyData.canLayAll0, a, a']
    · show PyData.depthAll (d.py :: pys ds) ≤ n
      simp only [PyData.depthAll]
      omega
end
theorem shaped_of {d : D} (h : shp 64 d = true) : SeqAt.shaped d.py = true := by
  obtain ⟨a, b⟩ := shp_py d 64 h
  unfold SeqAt.shaped
  rw [a]
  simpa using b
mutual
theorem Rep.dp {K : PySem.W.Frag} {H : Hp} : ∀ (d : D) (v : V) (n : Nat), Rep K H v d → shp n d = true → Dp K H v d.py
  | .non, _, _, h, _ => by cases h; exact .non
  | .bl _, _, _, h, _ => by cases h; exact .bl _
  | .int _, _, _, h, _ => by cases h; exact .int _
  | .str _, _, _, h, _ => by cases h; exact .str _
  | .node .lst ks, _, 0, h, q => by simp [shp] at q
  | .node .tup ks, _, 0, h, q => by simp [shp] at q
  | .node .lst ks, _, n + 1, h, q => by
    cases h with
    | node h1 h2 h3 => exact .lst (SqL.of h1) (RepL.dp ks _ n h3 (by simpa [shp] using q))
  | .node .tup ks, _, n + 1, h, q => by
    cases h with
    | node h1 h2 h3 => exact .tup (SqT.of h1) (RepL.dp ks _ n h3 (by simpa [shp] using q))
  | .node .ro ks, _, n, h, q => by simp [shp] at q
  | .node (.dK _) ks, _, n, h, q => by simp [shp] at q
  | .node (.dT _) ks, _, n, h, q => by simp [shp] at q
  | .node (.obj _ _) ks, _, n, h, q => by simp [shp] at q
theorem RepL.dp {K : PySem.W.Frag} {H : Hp} : ∀ (ds : List D) (vs : List V) (n : Nat), RepL K H vs ds → shpL n ds = true → DpAll K H vs (pys ds)
  | [], _, _, h, _ => by cases h; exact .nil
  | d :: ds, _, n, h, q => by
    have q' : shp n d = true ∧ shpL n ds = true := by simpa [shpL] using q
    cases h with
    | cons h1 h2 => exact .cons (Rep.dp d _ n h1 q'.1) (RepL.dp ds _ n h2 q'.2)
end

def deq (d e : D) : Bool := PyData.eqv d.py e.py
def gEq : D → D → (D → Prop) → Prop
  | .int i, .int j, k => k (.bl (decide (i = j)))
  | .str x, .str y, k => k (.bl (decide (x = y)))
  | .bl x, .bl y, k => k (.bl (decide (x = y)))
  | d, e, k => (shp 64 d = true ∧ shp 64 e = true) ∧ k (.bl (deq d e))
def gNe : D → D → (D → Prop) → Prop
  | .int i, .int j, k => k (.bl (!decide (i = j)))
  | .str x, .str y, k => k (.bl (!decide (x = y)))
  | .bl x, .bl y, k => k (.bl (!decide (x = y)))
  | d, e, k => (shp 64 d = true ∧ shp 64 e = true) ∧ k (.bl (!deq d e))
def gCmp (f : Int → Int → Bool) : D → D → (D → Prop) → Prop
  | .int i, .int j, k => k (.bl (f i j))
  | _, _, _ => False
/-- a key -/
def D.key : D → Option Key
  | .int i => some (.inl i)
  | .str x => some (.inr x)
  | _ => none
def keysD : List D → Option (List Key)
  | [] => some []
  | d :: ds => match d.key, keysD ds with
    | some k, some ks => some (k :: ks)
    | _, _ => none
def D.keyT : D → Option (List Key)
  | .node .tup ds => keysD ds
  | _ => none
def memK {κ : Type} [DecidableEq κ] (ks : List κ) (k : κ) : Bool := ks.any fun x => decide (x = k)
def neg' (neg b : Bool) : Bool := if neg then !b else b
/-- x in a list, a tuple, a dict -/
def gIn (neg : Bool) : D → D → (D → Prop) → Prop
  | d, .node .lst es, k => (shp 64 d = true ∧ shpL 63 es = true) ∧ k (.bl (neg' neg (es.any fun e => deq e d)))
  | d, .node .tup es, k => (shp 64 d = true ∧ shpL 63 es = true) ∧ k (.bl (neg' neg (es.any fun e => deq e d)))
  | d, .node (.dK ks) _, k => ∃ key, d.key = some key ∧ k (.bl (neg' neg (memK ks key)))
  | d, .node (.dT ks) _, k => ∃ key, d.keyT = some key ∧ k (.bl (neg' neg (memK ks key)))
  | _, _, _ => False
theorem mono_eq : MonoG gEq := fun x y P Q f h => by unfold gEq at h ⊢; split <;> simp_all
theorem mono_ne : MonoG gNe := fun x y P Q f h => by unfold gNe at h ⊢; split <;> simp_all
theorem mono_cmp {g : Int → Int → Bool} : MonoG (gCmp g) := fun x y P Q f h => by unfold gCmp at h ⊢; split <;> simp_all
theorem mono_in {n : Bool} : MonoG (gIn n) := fun x y P Q f h => by
  unfold gIn at h
  split at h
  · exact ⟨h.1, f _ h.2⟩
  · exact ⟨h.1, f _ h.2⟩
  · obtain ⟨key, e, h⟩ := h
    exact ⟨key, e, f _ h⟩
  · obtain ⟨key, e, h⟩ := h
    exact ⟨key, e, f _ h⟩
  · exact h.elim
def rEqA (K : PySem.W.Frag) : R2 := fun x y H Q => rEq x y H Q ∨ rEqD K x y H Q
def rNeA (K : PySem.W.Frag) : R2 := fun x y H Q => rNe x y H Q ∨ rNeD K x y H Q
theorem sc_eq {K : PySem.W.Frag} : Sc2 K (rEqA K) gEq := fun H x y d e k Q hx hy h q => by
  unfold gEq at h
  split at h
  · cases hx; cases hy
    refine .inl ⟨rfl, ?_⟩
    have := q _ _ (repA_bl _) h
    simpa using this
  · cases hx; cases hy
    refine .inl ⟨rfl, ?_⟩
    have := q _ _ (repA_bl _) h
    simpa using this
  · cases hx; cases hy
    refine .inl ⟨rfl, ?_⟩
    have := q _ _ (repA_bl _) h
    simpa using this
  · obtain ⟨⟨h1, h2⟩, h⟩ := h
    exact .inr ⟨_, _, hx.dp _ _ _ h1, hy.dp _ _ _ h2, shaped_of h1, shaped_of h2, q _ _ (repA_bl _) h⟩
theorem sc_ne {K : PySem.W.Frag} : Sc2 K (rNeA K) gNe := fun H x y d e k Q hx hy h q => by
  unfold gNe at h
  split at h
  · cases hx; cases hy
    refine .inl ⟨rfl, ?_⟩
    have := q _ _ (repA_bl _) h
    simpa using this
  · cases hx; cases hy
    refine .inl ⟨rfl, ?_⟩
    have := q _ _ (repA_bl _) h
    simpa using this
  · cases hx; cases hy
    refine .inl ⟨rfl, ?_⟩
    have := q _ _ (repA_bl _) h
    simpa using this
  · obtain ⟨⟨h1, h2⟩, h⟩ := h
    exact .inr ⟨_, _, hx.dp _ _ _ h1, hy.dp _ _ _ h2, shaped_of h1, shaped_of h2, q _ _ (repA_bl _) h⟩
theorem sc_cmp {K : PySem.W.Frag} {f : Int → Int → Bool} : Sc2 K (rI0 fun i j => .bl (f i j)) (gCmp f) := fun H x y d e k Q hx hy h q => by
  cases d <;> try exact h.elim
  cases e <;> try exact h.elim
  cases hx
  cases hy
  exact ⟨_, _, rfl, rfl, q _ _ (repA_bl _) h⟩
/-- .. of lists and tuples of data -/
def rInA (neg : Bool) (K : PySem.W.Frag) : R2 := fun x y H Q => ∃ d ds, Dp K H x d ∧ (Dp K H y (.list ds) ∨ Dp K H y (.tuple ds)) ∧ SeqAt.shaped d = true ∧ PyData.canLayAll0 ds = true ∧ Q (.bl (neg' neg (ds.any fun z => PyData.eqv z d))) H
/-- .. of dicts -/
def rInK (neg : Bool) : R2 := fun y x H Q => ∃ a o, x = .ref a ∧ DGet H a y o ∧ Q (.bl (neg' neg o.isSome)) H
section
variable {X : Cx}
theorem op_inA (hu : X.A.units + 65 < cLine) : OpR X (compareOp .In) (rInA false X.K) := by
  intro pins s σ H x y v u Q I rx ry h
  obtain ⟨d, ds, hd, he, sd, se, q⟩ := h
  obtain ⟨as, r1⟩ := Dp.reads I d x v hd rx
  rcases he with he | he
  · obtain ⟨bs, r2⟩ := Dp.reads I (.list ds) y u he ry
    exact SeqAt.in_list_reads r2 r1 se (SeqAt.canLay_of_shaped sd) (PyProof.Rows.room_in_shaped sd hu) ⟨.bl _, H, I, rfl, q⟩
  · obtain ⟨bs, r2⟩ := Dp.reads I (.tuple ds) y u he ry
    exact SeqAt.in_tuple_reads r2 r1 se (SeqAt.canLay_of_shaped sd) (PyProof.Rows.room_in_shaped sd hu) ⟨.bl _, H, I, rfl, q⟩
theorem op_notInA (hu : X.A.units + 65 < cLine) : OpR X (compareOp .NotIn) (rInA true X.K) := by
  intro pins s σ H x y v u Q I rx ry h
  obtain ⟨d, ds, hd, he, sd, se, q⟩ := h
  obtain ⟨as, r1⟩ := Dp.reads I d x v hd rx
  rcases he with he | he
  · obtain ⟨bs, r2⟩ := Dp.reads I (.list ds) y u he ry
    exact SeqAt.notIn_list_reads r2 r1 se (SeqAt.canLay_of_shaped sd) (PyProof.Rows.room_in_shaped sd hu) ⟨.bl _, H, I, rfl, q⟩
  · obtain ⟨bs, r2⟩ := Dp.reads I (.tuple ds) y u he ry
    exact SeqAt.notIn_tuple_reads r2 r1 se (SeqAt.canLay_of_shaped sd) (PyProof.Rows.room_in_shaped sd hu) ⟨.bl _, H, I, rfl, q⟩
theorem op_inK (hu : X.A.units + 1 < cLine) : OpR X (compareOp .In) (rInK false) := by
  intro pins s σ H x y v u Q I rx ry h
  obtain ⟨a, o, rfl, g, q⟩ := h
  cases ry
  exact d_in hu I g rx fun s3 I3 => ⟨.bl _, H, I3, rfl, q⟩
theorem op_notInK (hu : X.A.units + 1 < cLine) : OpR X (compareOp .NotIn) (rInK true) := by
  intro pins s σ H x y v u Q I rx ry h
  obtain ⟨a, o, rfl, g, q⟩ := h
  cases ry
  exact d_notIn hu I g rx fun s3 I3 => ⟨.bl _, H, I3, rfl, q⟩
end
theorem key_rep {K : PySem.W.Frag} {H : Hp} {d : D} {v : V} {k : Key} (h : Rep K H v d) (e : d.key = some k) : v = kV k := by
  cases d <;> try (cases e)
  · cases h; rfl
  · cases h; rfl
theorem keys_rep {K : PySem.W.Frag} {H : Hp} : ∀ {ds : List D} {vs : List V} {ks : List Key}, RepL K H vs ds → keysD ds = some ks → vs = ks.map kV
  | [], _, _, h, e => by cases h; cases e; rfl
  | d :: ds, _, _, h, e => by
    cases h with
    | cons h1 h2 =>
      unfold keysD at e
      split at e
      · rename_i k ks e1 e2
        cases e
        rw [key_rep h1 e1, keys_rep h2 e2]
        rfl
      · cases e
theorem keyT_rep {K : PySem.W.Frag} {H : Hp} {d : D} {v : V} {k : List Key} (h : Rep K H v d) (e : d.keyT = some k) : ∃ b, v = .ref b ∧ H b = some (.tup (k.map kV)) := by
  unfold D.keyT at e
  split at e
  · cases h with
    | @node p sh vs ds h1 h2 h3 => exact ⟨p, rfl, by rw [← keys_rep h3 e]; exact h1⟩
  · cases e
theorem valV_some {κ : Type} [DecidableEq κ] : ∀ {ks : List κ} {vs : List V} {k : κ}, ks.length = vs.length → (valV (ks.zip vs) k).isSome = memK ks k
  | [], [], k, _ => rfl
  | [], _ :: _, _, h => by cases h
  | _ :: _, [], _, h => by cases h
  | a :: ks, v :: vs, k, h => by
    rw [List.zip_cons_cons]
    by_cases e : a = k
    · rw [valV_pos e]
      simp [e, memK]
    · rw [valV_neg e, valV_some (by simpa using h)]
      simp [e, memK]
theorem any_py (ds : List D) (d : D) : ((pys ds).any fun z => PyData.eqv z d.py) = ds.any fun e => deq e d := by
  rw [pys_map, List.any_map]
  rfl
def rInU (neg : Bool) (K : PySem.W.Frag) : R2 := fun x y H Q => rInA neg K x y H Q ∨ rInK neg x y H Q
theorem sc_in {K : PySem.W.Frag} {neg : Bool} : Sc2 K (rInU neg K) (gIn neg) := fun H x y d e k Q hx hy h q => by
  unfold gIn at h
  split at h
  · obtain ⟨⟨h1, h2⟩, h⟩ := h
    refine .inl ⟨_, _, hx.dp _ _ _ h1, .inl (hy.dp _ _ 64 (by simpa [shp] using h2)), shaped_of h1, (shpL_py _ _ h2).1, ?_⟩
    rw [any_py]
    exact q _ _ (repA_bl _) h
  · obtain ⟨⟨h1, h2⟩, h⟩ := h
    refine .inl ⟨_, _, hx.dp _ _ _ h1, .inr (hy.dp _ _ 64 (by simpa [shp] using h2)), shaped_of h1, (shpL_py _ _ h2).1, ?_⟩
    rw [any_py]
    exact q _ _ (repA_bl _) h
  · obtain ⟨key, e, h⟩ := h
    cases hy with
    | @node p sh vs ds h1 h2 h3 =>
      refine .inr ⟨p, _, rfl, .inl ⟨_, key, h1.2, key_rep hx e, rfl⟩, ?_⟩
      rw [valV_some h1.1]
      exact q _ _ (repA_bl _) h
  · obtain ⟨key, e, h⟩ := h
    cases hy with
    | @node p sh vs ds h1 h2 h3 =>
      obtain ⟨b, rfl, hb⟩ := keyT_rep hx e
      refine .inr ⟨p, _, rfl, .inr ⟨_, key, b, h1.2, rfl, hb, rfl⟩, ?_⟩
      rw [valV_some h1.1]
      exact q _ _ (repA_bl _) h
  · exact h.elim
/-- is None, is not None -/
def gIs (neg : Bool) : D → D → (D → Prop) → Prop
  | .non, .non, k => k (.bl (neg' neg true))
  | .int _, .non, k => k (.bl (neg' neg false))
  | .bl _, .non, k => k (.bl (neg' neg false))
  | .str _, .non, k => k (.bl (neg' neg false))
  | .node _ _, .non, k => k (.bl (neg' neg false))
  | _, _, _ => False
theorem mono_is {n : Bool} : MonoG (gIs n) := fun x y P Q f h => by unfold gIs at h ⊢; split <;> simp_all
theorem sc_isN {K : PySem.W.Frag} : Sc2 K (fun x y H Q => y = .non ∧ Q (.bl (decide (x = .non))) H) (gIs false) := fun H x y d e k Q hx hy h q => by
  cases e <;> try (cases d <;> exact h.elim)
  cases hy
  refine ⟨rfl, ?_⟩
  cases hx <;> exact q _ _ (repA_bl _) h
theorem sc_notN {K : PySem.W.Frag} : Sc2 K (fun x y H Q => y = .non ∧ Q (.bl (!decide (x = .non))) H) (gIs true) := fun H x y d e k Q hx hy h q => by
  cases e <;> try (cases d <;> exact h.elim)
  cases hy
  refine ⟨rfl, ?_⟩
  cases hx <;> exact q _ _ (repA_bl _) h

/-! ### the rules by their operators -/
section
variable {X : Cx} {a b c e : Expr} {es : List Expr} {pos : Pos} {pa pb pc p : PX} {k : Nat}
theorem d_sub (ha : PD X a pa) (hb : PD X b pb) : PD X (.BinOp a .Sub b pos) (p2 gSubI pa pb) := d_op op_sub sc_sub mono_sub ha hb
theorem d_mod (ha : PD X a pa) (hb : PD X b pb) : PD X (.BinOp a .Mod b pos) (p2 gMod pa pb) := d_op op_mod sc_mod mono_mod ha hb
theorem d_div (ha : PD X a pa) (hb : PD X b pb) : PD X (.BinOp a .FloorDiv b pos) (p2 gDiv pa pb) := d_op op_fdivW sc_div mono_div ha hb
theorem d_pow (ha : PD X a pa) (hb : PD X b pb) : PD X (.BinOp a .Pow b pos) (p2 gPow pa pb) := d_op op_pow sc_pow mono_pow ha hb
theorem hu64 (hr : Room k X.A) : X.A.units + 64 < cLine := hr.units
theorem hu65 (hr : Room k X.A) : X.A.units + 65 < cLine := by have := hr.un; omega
theorem hu1 (hr : Room k X.A) : X.A.units + 1 < cLine := by have := hr.un; omega
theorem d_eq (hr : Room k X.A) (ha : PD X a pa) (hb : PD X b pb) : PD X (.Compare a [.Eq] [b] pos) (p2 gEq pa pb) := d_cmp (op_eq.or (op_eqD (hu64 hr))) sc_eq mono_eq ha hb (nomark _)
theorem d_ne (hr : Room k X.A) (ha : PD X a pa) (hb : PD X b pb) : PD X (.Compare a [.NotEq] [b] pos) (p2 gNe pa pb) := d_cmp (op_ne.or (op_neD (hu64 hr))) sc_ne mono_ne ha hb (nomark _)
theorem d_lt (ha : PD X a pa) (hb : PD X b pb) : PD X (.Compare a [.Lt] [b] pos) (p2 (gCmp fun i j => decide (i < j)) pa pb) := d_cmp op_lt sc_cmp mono_cmp ha hb (nomark _)
theorem d_le (ha : PD X a pa) (hb : PD X b pb) : PD X (.Compare a [.LtE] [b] pos) (p2 (gCmp fun i j => decide (i ≤ j)) pa pb) := d_cmp op_le sc_cmp mono_cmp ha hb (nomark _)
theorem d_gt (ha : PD X a pa) (hb : PD X b pb) : PD X (.Compare a [.Gt] [b] pos) (p2 (gCmp fun i j => decide (j < i)) pa pb) := d_cmp op_gt sc_cmp mono_cmp ha hb (nomark _)
theorem d_ge (ha : PD X a pa) (hb : PD X b pb) : PD X (.Compare a [.GtE] [b] pos) (p2 (gCmp fun i j => decide (j ≤ i)) pa pb) := d_cmp op_ge sc_cmp mono_cmp ha hb (nomark _)
theorem d_in_ (hr : Room k X.A) (ha : PD X a pa) (hb : PD X b pb) (hm : behindInMarks .In b = false := by rfl) : PD X (.Compare a [.In] [b] pos) (p2 (gIn false) pa pb) := d_cmp ((op_inA (hu65 hr)).or (op_inK (hu1 hr))) sc_in mono_in ha hb hm
theorem d_nin (hr : Room k X.A) (ha : PD X a pa) (hb : PD X b pb) (hm : behindInMarks .NotIn b = false := by rfl) : PD X (.Compare a [.NotIn] [b] pos) (p2 (gIn true) pa pb) := d_cmp ((op_notInA (hu65 hr)).or (op_notInK (hu1 hr))) sc_in mono_in ha hb hm
theorem d_is (ha : PD X a pa) (hb : PD X b pb) : PD X (.Compare a [.Is] [b] pos) (p2 (gIs false) pa pb) := d_cmp op_isN sc_isN mono_is ha hb (nomark _)
theorem d_isnt (ha : PD X a pa) (hb : PD X b pb) : PD X (.Compare a [.IsNot] [b] pos) (p2 (gIs true) pa pb) := d_cmp op_notN sc_notN mono_is ha hb (nomark _)
theorem t_eq (hr : Room k X.A) (ha : PD X a pa) (hb : PD X b pb) : PDT X (.Compare a [.Eq] [b] pos) (p2T gEq pa pb) := t_cmp (op_eq.or (op_eqD (hu64 hr))) sc_eq mono_eq ha hb (nomark _)
theorem t_ne (hr : Room k X.A) (ha : PD X a pa) (hb : PD X b pb) : PDT X (.Compare a [.NotEq] [b] pos) (p2T gNe pa pb) := t_cmp (op_ne.or (op_neD (hu64 hr))) sc_ne mono_ne ha hb (nomark _)
theorem t_lt (ha : PD X a pa) (hb : PD X b pb) : PDT X (.Compare a [.Lt] [b] pos) (p2T (gCmp fun i j => decide (i < j)) pa pb) := t_cmp op_lt sc_cmp mono_cmp ha hb (nomark _)
theorem t_le (ha : PD X a pa) (hb : PD X b pb) : PDT X (.Compare a [.LtE] [b] pos) (p2T (gCmp fun i j => decide (i ≤ j)) pa pb) := t_cmp op_le sc_cmp mono_cmp ha hb (nomark _)
theorem t_gt (ha : PD X a pa) (hb : PD X b pb) : PDT X (.Compare a [.Gt] [b] pos) (p2T (gCmp fun i j => decide (j < i)) pa pb) := t_cmp op_gt sc_cmp mono_cmp ha hb (nomark _)
theorem t_ge (ha : PD X a pa) (hb : PD X b pb) : PDT X (.Compare a [.GtE] [b] pos) (p2T (gCmp fun i j => decide (j ≤ i)) pa pb) := t_cmp op_ge sc_cmp mono_cmp ha hb (nomark _)
theorem t_in_ (hr : Room k X.A) (ha : PD X a pa) (hb : PD X b pb) (hm : behindInMarks .In b = false := by rfl) : PDT X (.Compare a [.In] [b] pos) (p2T (gIn false) pa pb) := t_cmp ((op_inA (hu65 hr)).or (op_inK (hu1 hr))) sc_in mono_in ha hb hm
theorem t_nin (hr : Room k X.A) (ha : PD X a pa) (hb : PD X b pb) (hm : behindInMarks .NotIn b = false := by rfl) : PDT X (.Compare a [.NotIn] [b] pos) (p2T (gIn true) pa pb) := t_cmp ((op_notInA (hu65 hr)).or (op_notInK (hu1 hr))) sc_in mono_in ha hb hm
theorem t_is (ha : PD X a pa) (hb : PD X b pb) : PDT X (.Compare a [.Is] [b] pos) (p2T (gIs false) pa pb) := t_cmp op_isN sc_isN mono_is ha hb (nomark _)
theorem t_isnt (ha : PD X a pa) (hb : PD X b pb) : PDT X (.Compare a [.IsNot] [b] pos) (p2T (gIs true) pa pb) := t_cmp op_notN sc_notN mono_is ha hb (nomark _)

/-! ### tests -/
/-- the truth of a value -/
def gTru : D → Option Bool
  | .non => some false
  | .bl b => some b
  | .int i => some (i != 0)
  | .str x => some (x.length != 0)
  | .node .lst ds => some (!ds.isEmpty)
  | .node .tup ds => some (!ds.isEmpty)
  | _ => none
def pTru (p : PX) : PB := fun env k => p env fun r => ∃ t c, r.tr env = some t ∧ gTru t.er = some c ∧ k c
/-- of a value that is True or False -/
def pBl (p : PX) : PB := fun env k => p env fun r => ∃ c, r = .va (.s (.bl c)) ∧ k c
theorem t_val (ha : PD X a pa) (he : ∀ whole, isTrue a X.env whole = (do let v ← whole; standAt a.pos; holding [v] (truthy v)) := by intro _; rfl) : PDT X a (pBl pa) := by
  refine ⟨PT.weak (pt_val ha.run he) fun σ H Q ⟨S, B, env, sr, q⟩ => ⟨S, B, env, sr, ha.mono env (fun r ⟨c, e, q⟩ S1 B1 v H1 g r1 => ?_) q⟩, fun env P Q f h => ha.mono env (fun r ⟨c, e, q⟩ => ⟨c, e, f _ q⟩) h⟩
  subst e
  obtain ⟨F, o, _⟩ := r1
  cases o with
  | s o =>
    cases o
    exact ⟨c, rfl, q S1 B1 H1 g⟩
def pAndT (p q : PB) : PB := fun env k => p env fun c => if c = true then q env k else k false
def pOrT (p q : PB) : PB := fun env k => p env fun c => if c = true then k true else q env k
def pNotT (p : PB) : PB := fun env k => p env fun c => k (!c)
structure PDW (X : Cx) (e : Expr) (p : PB) : Prop where
  run : PW X e (tDT X.K p)
  mono : MonoB p
theorem PW.weak {t t' : TT} (h : PW X e t) (w : ∀ σ H Q, t' σ H Q → t σ H Q) : PW X e t' := ⟨fun wh pins s σ H Q I q => h.run wh pins s σ H Q I (w _ _ _ q)⟩
variable {p1 p2' : PB}
theorem tw (h : PDW X e p1) : PDT X e p1 := ⟨h.run.pt, h.mono⟩
theorem tw_and1 (h : PDT X a p1) : PDW X (.BoolOp .And [a] pos) p1 := ⟨pw_and1 h.run, h.mono⟩
theorem tw_or1 (h : PDT X a p1) : PDW X (.BoolOp .Or [a] pos) p1 := ⟨pw_or1 h.run, h.mono⟩
theorem tw_and (ha : PDT X a p1) (hb : PDW X (.BoolOp .And (b :: es) pos) p2') : PDW X (.BoolOp .And (a :: b :: es) pos) (pAndT p1 p2') := by
  refine ⟨PW.weak (pw_and ha.run hb.run) fun σ H Q ⟨S, B, env, sr, q⟩ => ⟨S, B, env, sr, ha.mono env (fun c q S1 B1 H1 g => ?_) q⟩, fun env P Q f h => ha.mono env (fun c h => ?_) h⟩
  · cases c with
    | true => exact ⟨S1, B1, env, sr.gro g, hb.mono env (fun c2 q S2 B2 H2 g2 => q S2 B2 H2 (g.trans g2)) q⟩
    | false => exact q S1 B1 H1 g
  · cases c with
    | true => exact hb.mono env f h
    | false => exact f _ h
theorem tw_or (ha : PDT X a p1) (hb : PDW X (.BoolOp .Or (b :: es) pos) p2') : PDW X (.BoolOp .Or (a :: b :: es) pos) (pOrT p1 p2') := by
  refine ⟨PW.weak (pw_or ha.run hb.run) fun σ H Q ⟨S, B, env, sr, q⟩ => ⟨S, B, env, sr, ha.mono env (fun c q S1 B1 H1 g => ?_) q⟩, fun env P Q f h => ha.mono env (fun c h => ?_) h⟩
  · cases c with
    | false => exact ⟨S1, B1, env, sr.gro g, hb.mono env (fun c2 q S2 B2 H2 g2 => q S2 B2 H2 (g.trans g2)) q⟩
    | true => exact q S1 B1 H1 g
  · cases c with
    | false => exact hb.mono env f h
    | true => exact f _ h
theorem t_not (ha : PDT X a p1) : PDT X (.UnaryOp .Not a pos) (pNotT p1) :=
  ⟨PT.weak (pt_not ha.run) fun σ H Q ⟨S, B, env, sr, q⟩ => ⟨S, B, env, sr, ha.mono env (fun c q S1 B1 H1 g => q S1 B1 H1 g) q⟩, fun env P Q f h => ha.mono env (fun c h => f _ h) h⟩
/-! .. as values: all but the last True or False -/
def pAndV (p q : PX) : PX := fun env k => p env fun r => ∃ c, r = .va (.s (.bl c)) ∧ if c = true then q env k else k (.va (.s (.bl false)))
def pOrV (p q : PX) : PX := fun env k => p env fun r => ∃ c, r = .va (.s (.bl c)) ∧ if c = true then k (.va (.s (.bl true))) else q env k
def pNotV (p : PX) : PX := fun env k => p env fun r => ∃ c, r = .va (.s (.bl c)) ∧ k (.va (.s (.bl (!c))))
theorem d_one {op} (h : PD X a p) : PD X (.BoolOp op [a] pos) p := ⟨pe_one h.run, h.mono⟩
theorem RR.bl {K : PySem.W.Frag} {S' B' H H' : Hp} {σ : L2.St} {v : V} {c : Bool} (h : RR K S' B' H H' σ v (.va (.s (.bl c)))) : v = .bl c := by
  obtain ⟨F, o, _⟩ := h
  cases o with
  | s o => cases o; rfl
theorem d_and (ha : PD X a pa) (hb : PD X (.BoolOp .And (b :: es) pos) pb) : PD X (.BoolOp .And (a :: b :: es) pos) (pAndV pa pb) := by
  refine ⟨PE.weak (pe_and ha.run hb.run) fun σ H Q ⟨S, B, env, sr, q⟩ => ⟨S, B, env, sr, ha.mono env (fun r ⟨c, e, q⟩ S1 B1 v H1 g r1 => ⟨c, ?_, ?_⟩) q⟩, fun env P Q f h => ha.mono env (fun r ⟨c, e, h⟩ => ⟨c, e, ?_⟩) h⟩
  · subst e; exact r1.bl
  · cases c with
    | true => exact ⟨S1, B1, env, sr.gro g, hb.mono env (fun c2 q S2 B2 v2 H2 g2 r2 => q S2 B2 v2 H2 (g.trans g2) (r2.early g.h)) q⟩
    | false => exact q S1 B1 _ H1 g (RR.sc (.bl _))
  · cases c with
    | true => exact hb.mono env f h
    | false => exact f _ h
theorem d_or (ha : PD X a pa) (hb : PD X (.BoolOp .Or (b :: es) pos) pb) : PD X (.BoolOp .Or (a :: b :: es) pos) (pOrV pa pb) := by
  refine ⟨PE.weak (pe_or ha.run hb.run) fun σ H Q ⟨S, B, env, sr, q⟩ => ⟨S, B, env, sr, ha.mono env (fun r ⟨c, e, q⟩ S1 B1 v H1 g r1 => ⟨c, ?_, ?_⟩) q⟩, fun env P Q f h => ha.mono env (fun r ⟨c, e, h⟩ => ⟨c, e, ?_⟩) h⟩
  · subst e; exact r1.bl
  · cases c with
    | false => exact ⟨S1, B1, env, sr.gro g, hb.mono env (fun c2 q S2 B2 v2 H2 g2 r2 => q S2 B2 v2 H2 (g.trans g2) (r2.early g.h)) q⟩
    | true => exact q S1 B1 _ H1 g (RR.sc (.bl _))
  · cases c with
    | false => exact hb.mono env f h
    | true => exact f _ h
theorem d_not (ha : PD X a pa) : PD X (.UnaryOp .Not a pos) (pNotV pa) := by
  refine ⟨PE.weak (pe_not ha.run) fun σ H Q ⟨S, B, env, sr, q⟩ => ⟨S, B, env, sr, ha.mono env (fun r ⟨c, e, q⟩ S1 B1 v H1 g r1 => ⟨c, ?_, ?_⟩) q⟩, fun env P Q f h => ha.mono env (fun r ⟨c, e, h⟩ => ⟨c, e, f _ h⟩) h⟩
  · subst e; exact r1.bl
  · exact q S1 B1 _ H1 g (RR.sc (.bl _))
/-- a if t else b -/
def pIfE (t : PB) (p q : PX) : PX := fun env k => t env fun c => if c = true then p env k else q env k
theorem d_if (hc : PDT X c p1) (ha : PD X a pa) (hb : PD X b pb) : PD X (.IfExp c a b pos) (pIfE p1 pa pb) := by
  refine ⟨PE.weak (pe_ifExp hc.run ha.run hb.run) fun σ H Q ⟨S, B, env, sr, q⟩ => ⟨S, B, env, sr, hc.mono env (fun c q S1 B1 H1 g => ?_) q⟩, fun env P Q f h => hc.mono env (fun c h => ?_) h⟩
  · cases c with
    | true => exact ⟨S1, B1, env, sr.gro g, ha.mono env (fun c2 q S2 B2 v2 H2 g2 r2 => q S2 B2 v2 H2 (g.trans g2) (r2.early g.h)) q⟩
    | false => exact ⟨S1, B1, env, sr.gro g, hb.mono env (fun c2 q S2 B2 v2 H2 g2 r2 => q S2 B2 v2 H2 (g.trans g2) (r2.early g.h)) q⟩
  · cases c with
    | true => exact ha.mono env f h
    | false => exact hb.mono env f h
/-- -a -/
def pNeg (p : PX) : PX := fun env k => p env fun r => ∃ i, r = .va (.s (.int i)) ∧ k (.va (.s (.int (-i))))
theorem d_neg (ha : PD X a pa) : PD X (.UnaryOp .USub a pos) (pNeg pa) := by
  refine ⟨PE.weak (pe_un un_neg ha.run) fun σ H Q ⟨S, B, env, sr, q⟩ => ⟨S, B, env, sr, ha.mono env (fun r ⟨c, e, q⟩ S1 B1 v H1 g r1 => ?_) q⟩, fun env P Q f h => ha.mono env (fun r ⟨c, e, h⟩ => ⟨c, e, f _ h⟩) h⟩
  subst e
  obtain ⟨F, o, _⟩ := r1
  cases o with
  | s o =>
    cases o
    exact ⟨c, rfl, q S1 B1 _ H1 g (RR.sc (.int _))⟩
end
end PL

/-! The pure layer, part 3: expressions that make objects, subscripts, built-in calls. -/
namespace PL
open PySem L2

def T.isS : T → Bool
  | .s _ => true
  | .node _ _ => false
def T.flat : T → Bool
  | .s _ => true
  | .node _ ts => ts.all T.isS
def T.kids : T → Option (Shape × List T)
  | .s (.node sh ds) => some (sh, ds.map T.s)
  | .s _ => none
  | .node sh ts => some (sh, ts)
/-- a result whose items may be taken over: its own, or one of shared items -/
def R.mv (env : En) : R → Option T
  | .va t => some t
  | .bo i π => match look env i π with
    | some t => if t.flat = true then some t else none
    | none => none
theorem flat_map (ds : List D) : (ds.map T.s).all T.isS = true := by
  induction ds with
  | nil => rfl
  | cons d ds ih => simp [T.isS]
section
variable {K : PySem.W.Frag} {S B H S' B' H' S1 B1 H1 : Hp} {σ : L2.St} {env : En} {v : V} {r : R} {t : T} {F : List Addr}
theorem OwnL.flatF : ∀ {ts : List T} {vs : List V} {F : List Addr}, OwnL K S H vs ts F → ts.all T.isS = true → F = []
  | [], _, _, h, _ => by cases h; rfl
  | t :: ts, _, _, h, e => by
    cases h with
    | cons h1 h2 h3 =>
      simp only [List.all_cons, Bool.and_eq_true] at e
      cases t with
      | node sh ks => cases e.1
      | s d =>
        cases h1 with
        | s h1 => rw [OwnL.flatF h2 e.2]; rfl
theorem mv_bo {i : Nat} {π : List Nat} (e : (R.bo i π).mv env = some t) : look env i π = some t ∧ t.flat = true := by
  have e' : (match look env i π with
    | some t => if t.flat = true then some t else none
    | none => none) = some t := e
  cases q : look env i π with
  | none => rw [q] at e'; cases e'
  | some u =>
    rw [q] at e'
    by_cases hf : u.flat = true
    · simp only [hf, if_true] at e'
      cases e'
      exact ⟨rfl, hf⟩
    · simp [hf] at e'
theorem Own.flatT (o : Own K S H v t F) (h : t.flat = true) : F.tail = [] := by
  cases o with
  | s o => rfl
  | node h1 h2 h3 h4 h5 => exact OwnL.flatF h4 h
theorem RR.mvd (h : RR K S1 B1 H H1 σ v r) (sr : SR K S' B' H' σ env) (a : Ex H H1) (g : Gro S1 B1 H1 S' B' H') (e : r.mv env = some t) : ∃ F, Own K S' H' v t F ∧ ∀ p ∈ F.tail, H p = none ∧ B' p = none ∧ H1 p ≠ none := by
  cases r with
  | va u =>
    obtain ⟨F, o, q⟩ := h
    have e' : u = t := Option.some.inj e
    subst e'
    refine ⟨F, o.mono g.e.s fun p hp => let ⟨_, e, _⟩ := o.dom p hp; (g.keeps e).1, fun p hp => ?_⟩
    have hp := List.mem_of_mem_tail hp
    obtain ⟨ob, e1, _⟩ := o.dom p hp
    exact ⟨(q p hp).1, (g.keeps e1).2.1 (q p hp).2, by rw [e1]; exact fun z => nomatch z⟩
  | bo i π =>
    obtain ⟨h1, h2⟩ := mv_bo e
    obtain ⟨F, o, _⟩ := (h.gro a g).get sr h1
    refine ⟨F, o, fun p hp => ?_⟩
    rw [o.flatT h2] at hp
    cases hp
theorem OwnL.shared : ∀ {ds : List D} {vs : List V}, RepL K S vs ds → OwnL K S H vs (ds.map T.s) [] := OwnL.sh
theorem Own.kids {sh : Shape} {ts : List T} (o : Own K S H v t F) (e : Ex S H) (k : t.kids = some (sh, ts)) : ∃ p vs, v = .ref p ∧ NodeR K H p sh vs ∧ vs.length ≤ sizeLine ∧ OwnL K S H vs ts F.tail := by
  cases o with
  | @s v d h =>
    cases d <;> try (cases k)
    cases h with
    | @node p sh vs ds h1 h2 h3 => exact ⟨p, vs, rfl, h1.mono e, h2, OwnL.sh h3⟩
  | @node p o sh vs ts F h1 h2 h3 h4 h5 =>
    cases k
    exact ⟨p, vs, rfl, h2.read h1, h3, h4⟩
theorem OwnL.append : ∀ {ts us : List T} {vs ws : List V} {F G : List Addr}, OwnL K S H vs ts F → OwnL K S H ws us G → (∀ p ∈ F, p ∉ G) → OwnL K S H (vs ++ ws) (ts ++ us) (F ++ G)
  | [], _, _, _, _, _, h, g, _ => by cases h; exact g
  | t :: ts, _, _, _, _, _, h, g, d => by
    cases h with
    | @cons v vs _ _ F F2 h1 h2 h3 =>
      rw [List.append_assoc]
      refine .cons h1 (OwnL.append h2 g fun p hp => d p (List.mem_append_right _ hp)) fun p hp hq => ?_
      rcases List.mem_append.mp hq with hq | hq
      · exact h3 p hp hq
      · exact d p (List.mem_append_left _ hp) hq
theorem OwnL.nofr {ts : List T} {vs : List V} (h : OwnL K S H vs ts F) {p : Addr} (hp : H p = none) : p ∉ F := fun z => by
  obtain ⟨o, e, _⟩ := h.dom p z
  rw [hp] at e
  cases e
/-- a new list of these items -/
theorem own_new {ts : List T} {vs : List V} {p : Addr} (h : OwnL K S H vs ts F) (hp : H p = none) (hl : vs.length ≤ sizeLine) : Own K S (upd H p (.lst vs)) (.ref p) (.node .lst ts) (p :: F) := by
  have n := h.nofr hp
  exact .node upd_same rfl hl (h.mono (.refl _) fun q hq => upd_ne fun e => n (e ▸ hq)) n
/-- the footprint G frozen -/
theorem Gro.frz {G : List Addr} (g : Gro S B H S1 B1 H1) (h : ∀ p ∈ G, H p = none ∧ B1 p = none) : Gro S B H (joinF S1 H1 G) (joinF B1 H1 G) H1 := by
  have e1 : Ex S1 H1 := g.sb.trans g.bh
  refine ⟨g.h, ⟨g.e.s.trans (ex_joinF e1), g.e.b.trans (ex_joinF g.bh), fun p a b => ?_⟩, fun p a b => ?_, joinF_two g.sb, joinF_ex g.bh⟩
  · by_cases hp : p ∈ G
    · exact ex_none g.e.b (h p hp).2
    · rw [joinF_out hp] at a
      exact g.e.n p a b
  · by_cases hp : p ∈ G
    · exact (h p hp).1
    · rw [joinF_out hp] at a
      exact g.n p a b
theorem Gro.frz0 {G : List Addr} (sb : Ex S B) (bh : Ex B H) (h : ∀ p ∈ G, B p = none) : Ex S (joinF S H G) ∧ Ex (joinF S H G) (joinF B H G) ∧ Ex (joinF B H G) H := ⟨ex_joinF (sb.trans bh), joinF_two sb, joinF_ex bh⟩
end

/-! ### + -/
def gAddK : Option (Shape × List T) → Option (Shape × List T) → (T → Prop) → Prop
  | some (.lst, xs), some (.lst, ys), k => xs.length + ys.length ≤ sizeLine ∧ k (.node .lst (xs ++ ys))
  | some (.tup, xs), some (.tup, ys), k => xs.length + ys.length ≤ sizeLine ∧ k (.s (.node .tup (xs.map T.er ++ ys.map T.er)))
  | _, _, _ => False
def gAdd (a b : T) (k : T → Prop) : Prop := match a, b with
  | .s (.int i), .s (.int j) => k (.s (.int (i + j)))
  | .s (.str x), .s (.str y) => x.length + y.length ≤ sizeLine ∧ k (.s (.str (x ++ y)))
  | a, b => gAddK a.kids b.kids k
def gMulK : Option (Shape × List T) → Int → (T → Prop) → Prop
  | some (.lst, xs), n, k => (xs.all T.isS = true ∧ -9223372036854775808 ≤ n ∧ n < 9223372036854775808 ∧ xs.length * n.toNat ≤ sizeLine) ∧ k (.node .lst (List.replicate n.toNat xs).flatten)
  | _, _, _ => False
def gMul (a b : T) (k : T → Prop) : Prop := match a, b with
  | .s (.int i), .s (.int j) => ((-18446744073709551616 < i ∧ i < 18446744073709551616) ∨ (-18446744073709551616 < j ∧ j < 18446744073709551616)) ∧ k (.s (.int (i * j)))
  | a, .s (.int n) => gMulK a.kids n k
  | _, _ => False
theorem gAddK_mono (a b : Option (Shape × List T)) {P Q : T → Prop} (f : ∀ t, P t → Q t) (h : gAddK a b P) : gAddK a b Q := by
  unfold gAddK at h
  split at h
  · exact ⟨h.1, f _ h.2⟩
  · exact ⟨h.1, f _ h.2⟩
  · exact h.elim
theorem gAdd_mono (a b : T) {P Q : T → Prop} (f : ∀ t, P t → Q t) (h : gAdd a b P) : gAdd a b Q := by
  unfold gAdd at h ⊢
  split at h
  · exact f _ h
  · exact ⟨h.1, f _ h.2⟩
  · exact gAddK_mono _ _ f h
theorem gMulK_mono (a : Option (Shape × List T)) (n : Int) {P Q : T → Prop} (f : ∀ t, P t → Q t) (h : gMulK a n P) : gMulK a n Q := by
  unfold gMulK at h
  split at h
  · exact ⟨h.1, f _ h.2⟩
  · exact h.elim
theorem gMul_mono (a b : T) {P Q : T → Prop} (f : ∀ t, P t → Q t) (h : gMul a b P) : gMul a b Q := by
  unfold gMul at h ⊢
  split at h
  · exact ⟨h.1, f _ h.2⟩
  · exact gMulK_mono _ _ f h
  · exact h.elim
def pOp (g : T → T → (T → Prop) → Prop) (pa pb : PX) : PX := fun env k => pa env fun ra => pb env fun rb => ∃ a b, ra.mv env = some a ∧ rb.mv env = some b ∧ g a b fun t => k (.va t)
/-- what may have come with a result: within W, or new -/
structure Add2 (S B H S' B' H' : Hp) (W : Addr → Prop) : Prop where
  h : Ex H H'
  s : Ex S S'
  b : Ex B B'
  sb : Ex S' B'
  bh : Ex B' H'
  sn : ∀ p, S' p ≠ none → S p = none → W p ∨ H p = none
  bn : ∀ p, B' p ≠ none → B p = none → W p ∨ H p = none
/-- an operator by values over owned and shared operands -/
def OpOk (X : Cx) (r : R2) (g : T → T → (T → Prop) → Prop) : Prop :=
  ∀ (S B H : Hp) (x y : V) (a b : T) (Fa Fb : List Addr) (Q : VK) (k : T → Prop), Ex S B → Ex B H → Own X.K S H x a Fa → Own X.K S H y b Fb → (∀ p ∈ Fa.tail, p ∉ Fb.tail) → (∀ p ∈ Fa.tail, B p = none) → (∀ p ∈ Fb.tail, B p = none) → g a b k →
    (∀ (t : T) (S' B' : Hp) (v : V) (H' : Hp) (F : List Addr), Add2 S B H S' B' H' (fun p => p ∈ Fa.tail ∨ p ∈ Fb.tail) → Own X.K S' H' v t F →
      (∀ p ∈ F, ((p ∈ Fa.tail ∨ p ∈ Fb.tail) ∨ H p = none) ∧ B' p = none) → k t → Q v H') → r x y H Q
section
variable {X : Cx} {a b e : Expr} {pos : Pos} {pa pb p : PX}
theorem d_opT {op : Operator} {r : R2} {g : T → T → (T → Prop) → Prop} (ho : OpR X (binaryOp op) r) (ok : OpOk X r g) (mg : MonoG g) (ha : PD X a pa) (hb : PD X b pb) : PD X (.BinOp a op b pos) (pOp g pa pb) := by
  refine ⟨PE.weak (pe_op ho ha.run hb.run) fun σ H Q ⟨S, B, env, sr, q⟩ => ?_, fun env P Q f h => ha.mono env (fun ra h => hb.mono env (fun rb ⟨ta, tb, ea, eb, q⟩ => ⟨ta, tb, ea, eb, mg _ _ (fun t q => f _ q) q⟩) h) h⟩
  refine ⟨S, B, env, sr, ha.mono env (fun ra q S1 B1 v1 H1 g1 r1 => ?_) q⟩
  refine ⟨S1, B1, env, sr.gro g1, hb.mono env (fun rb q S2 B2 v2 H2 g2 r2 => ?_) q⟩
  obtain ⟨ta, tb, ea, eb, q⟩ := q
  have sr2 := (sr.gro g1).gro g2
  have g12 := g1.trans g2
  obtain ⟨Fa, oa, na⟩ := r1.mvd sr2 g1.h g2 ea
  obtain ⟨Fb, ob, nb⟩ := r2.mvd sr2 g2.h (Gro.refl g2.sb g2.bh) eb
  refine ok S2 B2 H2 v1 v2 ta tb Fa Fb Q _ g2.sb g2.bh oa ob (fun p hp hq => (na p hp).2.2 (nb p hq).1) (fun p hp => (na p hp).2.1) (fun p hp => (nb p hp).2.1) q fun t S' B' v H' F ad o fr kt => ?_
  have fresh : ∀ p, (p ∈ Fa.tail ∨ p ∈ Fb.tail) ∨ H2 p = none → H p = none ∧ B2 p = none := fun p hp => by
    rcases hp with (z | z) | z
    · exact ⟨(na p z).1, (na p z).2.1⟩
    · exact ⟨ex_none g1.h (nb p z).1, (nb p z).2.1⟩
    · exact ⟨ex_none g12.h z, ex_none g2.bh z⟩
  refine kt S' B' v H' ⟨g12.h.trans ad.h, ⟨g12.e.s.trans ad.s, g12.e.b.trans ad.b, fun p a b => ?_⟩, fun p a b => ?_, ad.sb, ad.bh⟩ ⟨F, o, fun p hp => ⟨(fresh p (fr p hp).1).1, (fr p hp).2⟩⟩
  · cases z : S2 p with
    | none => exact ex_none g12.e.b (fresh p (ad.sn p a z)).2
    | some o => exact g12.e.n p (by rw [z]; exact fun z => nomatch z) b
  · cases z : B2 p with
    | none => exact (fresh p (ad.bn p a z)).1
    | some o => exact g12.n p (by rw [z]; exact fun z => nomatch z) b
end

/-! the operators -/
section
variable {X : Cx}
theorem Add2.refl {S B H : Hp} {W : Addr → Prop} (sb : Ex S B) (bh : Ex B H) : Add2 S B H S B H W := ⟨.refl _, .refl _, .refl _, sb, bh, fun p a b => absurd b a, fun p a b => absurd b a⟩
theorem Add2.new {S B H : Hp} {W : Addr → Prop} {p : Addr} {o : HO} (sb : Ex S B) (bh : Ex B H) (hp : H p = none) : Add2 S B H S B (upd H p o) W := ⟨ex_new hp, .refl _, .refl _, sb, bh.trans (ex_new hp), fun p a b => absurd b a, fun p a b => absurd b a⟩
theorem Add2.newS {S B H : Hp} {W : Addr → Prop} {p : Addr} {o : HO} (sb : Ex S B) (bh : Ex B H) (hp : H p = none) : Add2 S B H (upd S p o) (upd B p o) (upd H p o) W := by
  have g := Gro.newS (o := o) sb bh hp
  refine ⟨g.h, g.e.s, g.e.b, g.sb, g.bh, fun q a b => .inr ?_, fun q a b => .inr (g.n q a b)⟩
  by_cases e : q = p
  · rw [e]; exact hp
  · rw [upd_ne e] at a
    exact absurd b a
def rAddU (K : PySem.W.Frag) : R2 := fun x y H Q => (∃ i j, x = .int i ∧ y = .int j ∧ Q (.int (i + j)) H) ∨ (∃ i j, x = .str i ∧ y = .str j ∧ i.length + j.length ≤ sizeLine ∧ Q (.str (i ++ j)) H) ∨ rCat x y H Q ∨ rCatA K x y H Q
theorem op_addU : OpR X (binaryOp .Add) (rAddU X.K) := op_add.or (op_add_str.or (op_cat.or op_catA))
theorem kids_tup {K : PySem.W.Frag} {S H : Hp} {v : V} {t : T} {F : List Addr} {ts : List T} (o : Own K S H v t F) (k : t.kids = some (.tup, ts)) : ∃ (p : Addr) (vs : List V) (ds : List D), v = .ref p ∧ S p = some (.tup vs) ∧ ts = ds.map T.s ∧ t = .s (.node .tup ds) ∧ RepL K S vs ds ∧ vs.length ≤ sizeLine := by
  cases o with
  | @s v d h =>
    cases d <;> try (cases k)
    cases h with
    | node h1 h2 h3 => exact ⟨_, _, _, rfl, h1, rfl, rfl, h3, h2⟩
  | @node p o sh vs ts F h1 h2 h3 h4 h5 =>
    cases k
    exact h2.elim
theorem ok_addK {S B H : Hp} {x y : V} {a b : T} {Fa Fb : List Addr} {Q : VK} {k : T → Prop} (sb : Ex S B) (bh : Ex B H) (oa : Own X.K S H x a Fa) (ob : Own X.K S H y b Fb) (dj : ∀ p ∈ Fa.tail, p ∉ Fb.tail) (ba : ∀ p ∈ Fa.tail, B p = none) (bb : ∀ p ∈ Fb.tail, B p = none) (g : gAddK a.kids b.kids k)
    (q : ∀ (t : T) (S' B' : Hp) (v : V) (H' : Hp) (F : List Addr), Add2 S B H S' B' H' (fun p => p ∈ Fa.tail ∨ p ∈ Fb.tail) → Own X.K S' H' v t F → (∀ p ∈ F, ((p ∈ Fa.tail ∨ p ∈ Fb.tail) ∨ H p = none) ∧ B' p = none) → k t → Q v H') : rCat x y H Q ∨ rCatA X.K x y H Q := by
  have sh := sb.trans bh
  unfold gAddK at g
  split at g
  · rename_i xs ys e1 e2
    obtain ⟨p, vs, rfl, h1, h2, h3⟩ := oa.kids sh e1
    obtain ⟨p', vs', rfl, h1', h2', h3'⟩ := ob.kids sh e2
    have l1 := h3.len
    have l2 := h3'.len
    refine .inl ⟨p, p', vs, vs', rfl, rfl, h1, h1', by omega, fun r hr => ?_⟩
    have oo := own_new (h3.append h3' dj) hr (by rw [List.length_append]; omega)
    refine q _ S B _ _ _ (.new sb bh hr) oo (fun z hz => ?_) g.2
    cases hz with
    | head => exact ⟨.inr hr, ex_none bh hr⟩
    | tail _ hz =>
      rcases List.mem_append.mp hz with hz | hz
      · exact ⟨.inl (.inl hz), ba z hz⟩
      · exact ⟨.inl (.inr hz), bb z hz⟩
  · rename_i xs ys e1 e2
    obtain ⟨p, vs, ds, rfl, h1, rfl, rfl, h3, h4⟩ := kids_tup oa e1
    obtain ⟨p', vs', ds', rfl, h1', rfl, rfl, h3', h4'⟩ := kids_tup ob e2
    have l1 := h3.len
    have l2 := h3'.len
    obtain ⟨g1, g2⟩ := g
    rw [List.length_map, List.length_map] at g1
    rw [er_s_map, er_s_map] at g2
    refine .inr ⟨p, p', vs, vs', rfl, rfl, SqT.of (sh _ _ h1), SqT.of (sh _ _ h1'), by omega, fun e => ?_, fun _ e => ?_, fun _ _ r hr => ?_⟩
    · subst e
      cases h3
      exact q _ S B _ _ [] (.refl sb bh) (.s (.node (sh := .tup) h1' h4' h3')) (fun _ z => nomatch z) g2
    · subst e
      cases h3'
      rw [List.append_nil] at g2
      exact q _ S B _ _ [] (.refl sb bh) (.s (.node (sh := .tup) h1 h4 h3)) (fun _ z => nomatch z) g2
    · have hS : S r = none := ex_none sh hr
      have e1 : Ex S (upd S r (.tup (vs ++ vs'))) := ex_new hS
      exact q _ _ _ _ _ [] (.newS sb bh hr) (.s (.node (sh := .tup) upd_same (by rw [List.length_append]; omega) ((h3.append h3').mono e1))) (fun _ z => nomatch z) g2
  · exact g.elim
theorem ok_add : OpOk X (rAddU X.K) gAdd := by
  intro S B H x y a b Fa Fb Q k sb bh oa ob dj ba bb g q
  unfold gAdd at g
  split at g
  · cases oa with
    | s oa =>
      cases ob with
      | s ob =>
        cases oa
        cases ob
        exact .inl ⟨_, _, rfl, rfl, q _ S B _ H [] (.refl sb bh) (.s (.int _)) (fun _ z => nomatch z) g⟩
  · cases oa with
    | s oa =>
      cases ob with
      | s ob =>
        cases oa
        cases ob
        exact .inr (.inl ⟨_, _, rfl, rfl, g.1, q _ S B _ H [] (.refl sb bh) (.s (.str _)) (fun _ z => nomatch z) g.2⟩)
  · exact .inr (.inr (ok_addK sb bh oa ob dj ba bb g q))
def rMulU : R2 := fun x y H Q => rI CMul (fun i j => .int (i * j)) x y H Q ∨ rRep x y H Q
theorem op_mulU : OpR X (binaryOp .Mult) rMulU := op_mul.or op_rep
theorem isS_map : ∀ {ts : List T}, ts.all T.isS = true → ∃ ds : List D, ts = ds.map T.s
  | [], _ => ⟨[], rfl⟩
  | t :: ts, h => by
    simp only [List.all_cons, Bool.and_eq_true] at h
    obtain ⟨ds, rfl⟩ := isS_map h.2
    cases t with
    | s d => exact ⟨d :: ds, rfl⟩
    | node sh ks => cases h.1
theorem rep_map {α β : Type} (f : α → β) (xs : List α) : ∀ n : Nat, (List.replicate n (xs.map f)).flatten = ((List.replicate n xs).flatten).map f
  | 0 => rfl
  | n + 1 => by rw [List.replicate_succ, List.replicate_succ, List.flatten_cons, List.flatten_cons, List.map_append, rep_map f xs n]
theorem RepL.rep {K : PySem.W.Frag} {S : Hp} {ds : List D} {vs : List V} (h : RepL K S vs ds) : ∀ n : Nat, RepL K S (List.replicate n vs).flatten (List.replicate n ds).flatten
  | 0 => .nil
  | n + 1 => by
    rw [List.replicate_succ, List.replicate_succ, List.flatten_cons, List.flatten_cons]
    exact h.append (RepL.rep h n)
theorem rep_len {α : Type} (xs : List α) : ∀ n : Nat, (List.replicate n xs).flatten.length = n * xs.length
  | 0 => by simp
  | n + 1 => by rw [List.replicate_succ, List.flatten_cons, List.length_append, rep_len xs n, Nat.succ_mul, Nat.add_comm]
theorem ok_mul : OpOk X rMulU gMul := by
  intro S B H x y a b Fa Fb Q k sb bh oa ob dj ba bb g q
  have sh := sb.trans bh
  unfold gMul at g
  split at g
  · cases oa with
    | s oa =>
      cases ob with
      | s ob =>
        cases oa
        cases ob
        refine .inl ⟨_, _, rfl, rfl, ?_, q _ S B _ H [] (.refl sb bh) (.s (.int _)) (fun _ z => nomatch z) g.2⟩
        rcases g.1 with z | z
        · exact .inl ⟨by omega, by omega⟩
        · exact .inr ⟨by omega, by omega⟩
  · cases ob with
    | s ob =>
      cases ob
      unfold gMulK at g
      split at g
      · rename_i xs n e1
        obtain ⟨⟨g0, g1, g2, g3⟩, g4⟩ := g
        obtain ⟨p, vs, rfl, h1, h2, h3⟩ := oa.kids sh e1
        obtain ⟨ds, rfl⟩ := isS_map g0
        obtain ⟨h3, hF⟩ := OwnL.unsh h3
        have l1 := h3.len
        rw [List.length_map] at g3
        refine .inr ⟨p, _, vs, rfl, rfl, h1, by omega, by omega, by rw [l1]; exact g3, fun r hr => ?_⟩
        rw [rep_map] at g4
        have oo := own_new (H := H) (OwnL.sh (h3.rep _)) hr (by rw [rep_len, l1, Nat.mul_comm]; exact g3)
        refine q _ S B _ _ _ (.new sb bh hr) oo (fun z hz => ?_) g4
        cases hz with
        | head => exact ⟨.inr hr, ex_none bh hr⟩
        | tail _ hz => cases hz
      · exact g.elim
  · exact g.elim
variable {a b e : Expr} {pos : Pos} {pa pb p : PX}
theorem d_add (ha : PD X a pa) (hb : PD X b pb) : PD X (.BinOp a .Add b pos) (pOp gAdd pa pb) := d_opT op_addU ok_add (fun a b _ _ f h => gAdd_mono a b f h) ha hb
theorem d_mul (ha : PD X a pa) (hb : PD X b pb) : PD X (.BinOp a .Mult b pos) (pOp gMul pa pb) := d_opT op_mulU ok_mul (fun a b _ _ f h => gMul_mono a b f h) ha hb
end
end PL

/-! The pure layer, part 4: displays, subscripts, slices, built-in calls. -/
namespace PL
open PySem L2

/-! ### displays -/
def vaL : List R → Option (List T)
  | [] => some []
  | .va t :: rs => (vaL rs).map (t :: ·)
  | .bo _ _ :: _ => none
section
variable {K : PySem.W.Frag} {S B H S' B' H' S1 B1 H1 : Hp} {σ : L2.St} {env : En} {v : V} {r : R} {t : T} {F : List Addr}
theorem RRs.own : ∀ {vs : List V} {rs : List R} {G : List Addr} {ts : List T}, RRs K S1 B1 H H1 σ vs rs G → vaL rs = some ts → OwnL K S1 H1 vs ts G
  | _, _, _, _, .nil, e => by cases e; exact .nil
  | _, _, _, _, @RRs.consT _ _ _ _ _ _ v vs t rs F G o q h d, e => by
    have e' : (vaL rs).map (t :: ·) = some _ := e
    cases z : vaL rs with
    | none => rw [z] at e'; cases e'
    | some us =>
      rw [z] at e'
      cases e'
      exact .cons o (RRs.own h z) d
  | _, _, _, _, .consB _ _ _, e => nomatch e
end
def pTup (p : PAs) : PX := fun env k => p env fun rs => ∃ ts, vaL rs = some ts ∧ ts.length ≤ 1000 ∧ k (.va (.s (.node .tup (ts.map T.er))))
def pLst (p : PAs) : PX := fun env k => p env fun rs => ∃ ts, vaL rs = some ts ∧ ts.length ≤ 1000 ∧ k (.va (.node .lst ts))
theorem sz1000 {n : Nat} (h : n ≤ 1000) : n ≤ sizeLine := Nat.le_trans h (by decide)
section
variable {X : Cx} {a b e : Expr} {es : List Expr} {pos : Pos} {pa pb p : PX} {ps : PAs}
theorem d_lst (h : PDA X es ps) : PD X (.List es pos) (pLst ps) := by
  refine ⟨PE.weak (pe_lst h.run) fun σ H Q ⟨S, B, env, sr, q⟩ => ⟨S, B, env, sr, h.mono env (fun rs ⟨ts, e, l, q⟩ S1 B1 vs H1 G g r => ?_) q⟩, fun env P Q f h' => h.mono env (fun rs ⟨ts, e, l, q⟩ => ⟨ts, e, l, f _ q⟩) h'⟩
  have o := r.own e
  have l1 := o.len
  refine ⟨sz1000 (by omega), fun r1 hr => ?_⟩
  refine q S1 B1 _ _ (g.trans (Gro.new g.sb g.bh hr)) ⟨_, own_new o hr (sz1000 (by omega)), fun z hz => ?_⟩
  cases hz with
  | head => exact ⟨ex_none g.h hr, ex_none g.bh hr⟩
  | tail _ hz =>
    obtain ⟨_, _, e1, e2⟩ := r.dom z hz
    exact ⟨e1, e2⟩
theorem d_tup {k} (h : PDA X es ps) : PD X (.Tuple es k pos) (pTup ps) := by
  refine ⟨PE.weak (pe_tup h.run) fun σ H Q ⟨S, B, env, sr, q⟩ => ⟨S, B, env, sr, h.mono env (fun rs ⟨ts, e, l, q⟩ S1 B1 vs H1 G g r => ?_) q⟩, fun env P Q f h' => h.mono env (fun rs ⟨ts, e, l, q⟩ => ⟨ts, e, l, f _ q⟩) h'⟩
  have o := r.own e
  have l1 := o.len
  refine ⟨sz1000 (by omega), fun r1 hr => ?_⟩
  have g1 : Gro S B H _ _ H1 := g.frz (G := G) fun z hz => let ⟨_, _, e1, e2⟩ := r.dom z hz; ⟨e1, e2⟩
  have rp : RepL X.K (joinF S1 H1 G) vs (ers ts) := o.frz (ex_joinF (g.sb.trans g.bh)) fun z hz => joinF_in hz
  have g2 := Gro.newS (o := .tup vs) g1.sb g1.bh hr
  refine q _ _ _ _ (g1.trans g2) (RR.sc (.node (sh := .tup) upd_same (sz1000 (by omega)) ?_))
  rw [← ers_map]
  exact rp.mono g2.e.s
end

/-! ### subscripts -/
def ixK {κ : Type} [DecidableEq κ] (ks : List κ) (k : κ) : Option Nat := ks.findIdx? fun x => decide (x = k)
theorem valV_ix {κ : Type} [DecidableEq κ] : ∀ {ks : List κ} {vs : List V} {k : κ} {j : Nat}, ixK ks k = some j → ks.length = vs.length → valV (ks.zip vs) k = vs[j]?
  | [], _, _, _, h, _ => by simp [ixK] at h
  | a :: ks, [], _, _, _, h => by simp at h
  | a :: ks, v :: vs, k, j, h, hl => by
    unfold ixK at h
    rw [List.findIdx?_cons] at h
    by_cases e : a = k
    · simp [e] at h
      subst h
      rw [List.zip_cons_cons, valV_pos e]
      rfl
    · simp only [e, decide_false, Bool.false_eq_true, if_false, Option.map_eq_some_iff] at h
      obtain ⟨j', h1, rfl⟩ := h
      rw [List.zip_cons_cons, valV_neg e, valV_ix (show ixK ks k = some j' from h1) (by simpa using hl)]
      rfl
/-- the item of t at d: where it stands and what it is -/
def subT (t : T) (d : D) (k : Nat → T → Prop) : Prop := match t.kids with
  | some (.lst, ts) => ∃ i j c, d = .int i ∧ ixN ts.length i = some j ∧ ts[j]? = some c ∧ k j c
  | some (.tup, ts) => ∃ i j c, d = .int i ∧ ixN ts.length i = some j ∧ ts[j]? = some c ∧ k j c
  | some (.ro, ts) => ∃ i j c, d = .int i ∧ ixN ts.length i = some j ∧ ts[j]? = some c ∧ k j c
  | some (.dK ks, ts) => ∃ key j c, d.key = some key ∧ ixK ks key = some j ∧ ts[j]? = some c ∧ k j c
  | some (.dT ks, ts) => ∃ key j c, d.keyT = some key ∧ ixK ks key = some j ∧ ts[j]? = some c ∧ k j c
  | some (.obj _ _, _) => False
  | none => ∃ z i c, t = .s (.str z) ∧ d = .int i ∧ z.length ≤ sizeLine ∧ atI z.cps.toList i = some c ∧ k 0 (.s (.str ⟨#[c]⟩))
theorem subT_mono (t : T) (d : D) {P Q : Nat → T → Prop} (f : ∀ j c, P j c → Q j c) (h : subT t d P) : subT t d Q := by
  unfold subT at h ⊢
  split at h
  · obtain ⟨i, j, c, e1, e2, e3, h⟩ := h; exact ⟨i, j, c, e1, e2, e3, f _ _ h⟩
  · obtain ⟨i, j, c, e1, e2, e3, h⟩ := h; exact ⟨i, j, c, e1, e2, e3, f _ _ h⟩
  · obtain ⟨i, j, c, e1, e2, e3, h⟩ := h; exact ⟨i, j, c, e1, e2, e3, f _ _ h⟩
  · obtain ⟨i, j, c, e1, e2, e3, h⟩ := h; exact ⟨i, j, c, e1, e2, e3, f _ _ h⟩
  · obtain ⟨i, j, c, e1, e2, e3, h⟩ := h; exact ⟨i, j, c, e1, e2, e3, f _ _ h⟩
  · exact h.elim
  · obtain ⟨i, j, c, e1, e2, e3, e4, h⟩ := h; exact ⟨i, j, c, e1, e2, e3, e4, f _ _ h⟩
def kidR (ra : R) (j : Nat) (c : T) (k : R → Prop) : Prop := match c, ra with
  | .s x, _ => k (.va (.s x))
  | .node sh ts, .va _ => k (.va (.node sh ts))
  | .node _ _, .bo i π => k (.bo i (π ++ [j]))
def pIx (pa pb : PX) : PX := fun env k => pa env fun ra => pb env fun rb => ∃ t u, ra.tr env = some t ∧ rb.tr env = some u ∧ subT t u.er fun j c => kidR ra j c k
def rIxD : R2 := fun x y H Q => ∃ a v, x = .ref a ∧ DGet H a y (some v) ∧ Q v H
def rIxU (K : PySem.W.Frag) : R2 := fun x y H Q => rIxL K x y H Q ∨ rIxT K x y H Q ∨ rIxS x y H Q ∨ rIxD x y H Q
section
variable {X : Cx} {a b e : Expr} {es : List Expr} {pos : Pos} {pa pb p : PX} {ps : PAs} {k : Nat}
theorem ix_dict (hu : X.A.units + 1 < cLine) : IxR X rIxD := by
  intro value slice pins s σ H x y v u Q I rx ry h hs
  obtain ⟨a, w, rfl, g, q⟩ := h
  cases rx
  exact PyProof.Rows.tail_any (dict_typeIs I g) PySem.F.slot_dict_getitem.lookup (d_getItem hu I g ry fun w' s3 I3 rw' => ⟨w, H, I3, rw', q⟩) hs
theorem ix_all (hu : X.A.units + 1 < cLine) : IxR X (rIxU X.K) := ix_list.or (ix_tup.or (ix_str.or (ix_dict hu)))
theorem ShO.same {K : PySem.W.Frag} {H : Hp} {p : Addr} {o : HO} {vs vs' : List V} (e : H p = some o) : ∀ {sh : Shape}, ShO sh vs' o → NodeR K H p sh vs → kidsV o = vs
  | .lst, h, n => by
    rw [show H p = some (.lst vs) from n] at e
    cases e
    rfl
  | .tup, h, n => h.elim
  | .ro, h, n => h.elim
  | .dK ks, h, n => by
    obtain ⟨l2, n⟩ := n
    obtain ⟨l1, rfl, _⟩ := h
    rcases n with n | ⟨ob, n⟩
    · rw [n] at e
      injection e with e
      injection e with e
      show (ks.zip vs').map (·.2) = vs
      rw [← e, zip_snd l2]
    · rw [n] at e
      cases e
  | .dT ks, h, n => by
    obtain ⟨l2, n⟩ := n
    obtain ⟨l1, rfl, _⟩ := h
    rcases n with n | ⟨ob, n⟩
    · rw [n] at e
      injection e with e
      injection e with e
      show (ks.zip vs').map (·.2) = vs
      rw [← e, zip_snd l2]
    · rw [n] at e
      cases e
  | .obj C ns, h, n => by
    obtain ⟨l2, dx, n⟩ := n
    obtain ⟨l1, dx', rfl⟩ := h
    rw [n] at e
    injection e with e
    injection e with e1 e2 e
    show (ns.zip vs').map (·.2) = vs
    rw [← e, zip_snd l2]
theorem ixN_at {α : Type} {xs : List α} {i : Int} {j : Nat} (h : ixN xs.length i = some j) : atI xs i = xs[j]? := by
  unfold atI
  rw [h]
  rfl
theorem kidR_mono (ra : R) (j : Nat) (c : T) {P Q : R → Prop} (f : ∀ r, P r → Q r) (h : kidR ra j c P) : kidR ra j c Q := by
  unfold kidR at h ⊢
  cases c with
  | s x => exact f _ h
  | node sh ts => cases ra <;> exact f _ h
/-- a child as a result -/
theorem kidR_ok {H S2 B2 H2 : Hp} {σ : L2.St} {v u : V} {ra : R} {t c : T} {F Fi : List Addr} {j : Nat} {P : R → Prop} {sh : Shape} {ts : List T} {vs : List V} {p : Addr} (bh : Ex B2 H2) (r : RR X.K S2 B2 H H2 σ v ra) (ev : v = .ref p) (o : Own X.K S2 H2 v t F) (hF : (∃ t, ra = .va t) → ∀ p ∈ F, H p = none ∧ B2 p = none) (hk : t.kids = some (sh, ts))
    (oc : Own X.K S2 H2 u c Fi) (hFi : ∀ p ∈ Fi, p ∈ F) (hv : vs[j]? = some u) (hn : ∀ sh' ts', t = .node sh' ts' → ∃ o, H2 p = some o ∧ kidsV o = vs) (hc : ts[j]? = some c) (h : kidR ra j c P) : ∃ r', RR X.K S2 B2 H H2 σ u r' ∧ P r' := by
  unfold kidR at h
  cases c with
  | s x =>
    cases oc with
    | s oc => exact ⟨_, RR.sc oc, h⟩
  | node sh' ts' =>
    cases ra with
    | va t' => exact ⟨.va (.node sh' ts'), ⟨Fi, oc, fun p hp => hF ⟨_, rfl⟩ p (hFi p hp)⟩, h⟩
    | bo i π =>
      obtain ⟨v0, e0, at0⟩ := r
      refine ⟨.bo i (π ++ [j]), ⟨v0, e0, ?_⟩, h⟩
      cases t with
      | s d =>
        exfalso
        cases d <;> try (cases hk)
        rw [List.getElem?_map] at hc
        obtain ⟨d, _, hd⟩ := Option.map_eq_some_iff.mp hc
        cases hd
      | node sh3 ts3 =>
        obtain ⟨o, e1, e2⟩ := hn _ _ rfl
        exact at0.snoc ev e1 (by rw [e2]; exact hv)
theorem d_ix (hr : Room k X.A) (ha : PD X a pa) (hb : PD X b pb) (hs : PlainIx b := by exact fun _ _ => rfl) : PD X (.Subscript a b pos) (pIx pa pb) := by
  refine ⟨PE.weak (pe_ix (ix_all (hu1 hr)) ha.run hb.run hs) fun σ H Q ⟨S, B, env, sr, q⟩ => ?_, fun env P Q f h => ha.mono env (fun ra h => hb.mono env (fun rb ⟨t, u, e1, e2, h⟩ => ⟨t, u, e1, e2, subT_mono _ _ (fun j c h => kidR_mono _ _ _ f h) h⟩) h) h⟩
  refine ⟨S, B, env, sr, ha.mono env (fun ra q S1 B1 v1 H1 g1 r1 => ?_) q⟩
  refine ⟨S1, B1, env, sr.gro g1, hb.mono env (fun rb q S2 B2 v2 H2 g2 r2 => ?_) q⟩
  obtain ⟨t, u, ea, eb, q⟩ := q
  have sr2 := (sr.gro g1).gro g2
  have g12 := g1.trans g2
  have r1' := r1.gro g1.h g2
  obtain ⟨F, o, hF⟩ := r1'.get sr2 ea
  have ry := r2.rep sr2 eb
  have sh2 := sr2.sh
  have done : ∀ {v : V} {r : R}, RR X.K S2 B2 H H2 σ v r → (∀ S' B' v H', Gro S B H S' B' H' → RR X.K S' B' H H' σ v r → Q v H') → Q v H2 := fun h q => q S2 B2 _ H2 g12 h
  have kid : ∀ {p : Addr} {sh : Shape} {ts : List T} {vs : List V} {j : Nat} {c : T}, v1 = .ref p → t.kids = some (sh, ts) → NodeR X.K H2 p sh vs → OwnL X.K S2 H2 vs ts F.tail → ts[j]? = some c → kidR ra j c (fun r => ∀ S' B' v H', Gro S B H S' B' H' → RR X.K S' B' H H' σ v r → Q v H') → ∃ w, vs[j]? = some w ∧ Q w H2 := by
    intro p sh ts vs j c ev hk hn ol hc h
    obtain ⟨w, Fi, a1, a2, a3, _⟩ := ol.focus hc
    obtain ⟨r', b1, b2⟩ := kidR_ok (vs := vs) g2.bh r1' ev o hF hk a2 (fun p hp => List.mem_of_mem_tail (a3 p hp)) a1 (fun sh' ts' et => by
      subst et
      cases o with
      | @node p' o' sh' vs' ts' F' h1 h2 h3 h4 h5 =>
        cases ev
        cases hk
        exact ⟨o', h1, ShO.same h1 h2 hn⟩) hc h
    exact ⟨w, a1, done b1 b2⟩
  have lenE : ∀ {vs : List V} {ts : List T} {G : List Addr}, OwnL X.K S2 H2 vs ts G → ts.length = vs.length := fun h => h.len.symm
  unfold subT at q
  split at q
  · rename_i ts hk
    obtain ⟨i, j, c, e1, e2, e3, q⟩ := q
    obtain ⟨p, vs, ev, hn, hl, ol⟩ := o.kids sh2 hk
    obtain ⟨w, a1, a2⟩ := kid ev hk hn ol e3 q
    rw [e1] at ry
    cases ry
    rw [lenE ol] at e2
    exact .inl ⟨p, vs, i, w, ev, rfl, SqL.of hn, (ixN_at e2).trans a1, a2⟩
  · rename_i ts hk
    obtain ⟨i, j, c, e1, e2, e3, q⟩ := q
    obtain ⟨p, vs, ev, hn, hl, ol⟩ := o.kids sh2 hk
    obtain ⟨w, a1, a2⟩ := kid ev hk hn ol e3 q
    rw [e1] at ry
    cases ry
    rw [lenE ol] at e2
    exact .inr (.inl ⟨p, vs, i, w, ev, rfl, SqT.of hn, (ixN_at e2).trans a1, a2⟩)
  · rename_i ts hk
    obtain ⟨i, j, c, e1, e2, e3, q⟩ := q
    obtain ⟨p, vs, ev, hn, hl, ol⟩ := o.kids sh2 hk
    obtain ⟨w, a1, a2⟩ := kid ev hk hn ol e3 q
    rw [e1] at ry
    cases ry
    rw [lenE ol] at e2
    exact .inl ⟨p, vs, i, w, ev, rfl, hn, (ixN_at e2).trans a1, a2⟩
  · rename_i ks ts hk
    obtain ⟨key, j, c, e1, e2, e3, q⟩ := q
    obtain ⟨p, vs, ev, hn, hl, ol⟩ := o.kids sh2 hk
    obtain ⟨w, a1, a2⟩ := kid ev hk hn ol e3 q
    exact .inr (.inr (.inr ⟨p, w, ev, .inl ⟨_, key, hn.2, key_rep ry e1, by rw [valV_ix e2 hn.1]; exact a1.symm⟩, a2⟩))
  · rename_i ks ts hk
    obtain ⟨key, j, c, e1, e2, e3, q⟩ := q
    obtain ⟨p, vs, ev, hn, hl, ol⟩ := o.kids sh2 hk
    obtain ⟨w, a1, a2⟩ := kid ev hk hn ol e3 q
    obtain ⟨b, eb, hb⟩ := keyT_rep ry e1
    exact .inr (.inr (.inr ⟨p, w, ev, .inr ⟨_, key, b, hn.2, eb, hb, by rw [valV_ix e2 hn.1]; exact a1.symm⟩, a2⟩))
  · exact q.elim
  · obtain ⟨z, i, c, e0, e1, e2, e3, q⟩ := q
    subst e0
    rw [e1] at ry
    cases ry
    cases o with
    | s o =>
      cases o
      refine .inr (.inr (.inl ⟨z, i, c, rfl, rfl, e2, e3, ?_⟩))
      exact q S2 B2 _ H2 g12 (RR.sc (.str _))
end
end PL

/-! The pure layer, part 5: slices, built-in calls. -/
namespace PL
open PySem L2

/-! ### slices -/
abbrev PO' := En → (Option Int → Prop) → Prop
def tDO (K : PySem.W.Frag) (p : PO') : TO := fun σ H Q => ∃ S B env, SR K S B H σ env ∧ p env fun o => ∀ S' B' H', Gro S B H S' B' H' → Q o H'
structure PDO (X : Cx) (e : Option Expr) (p : PO') : Prop where
  po : ∃ t, PO X e t ∧ ∀ σ H Q, tDO X.K p σ H Q → t σ H Q
  mono : ∀ (env : En) {P Q : Option Int → Prop}, (∀ r, P r → Q r) → p env P → p env Q
def pNoPart : PO' := fun _ k => k none
def pPart (p : PX) : PO' := fun env k => p env fun r => ∃ i, r = .va (.s (.int i)) ∧ k (some i)
def cutL {α : Type} (xs : List α) (lo hi : Option Int) : List α := (xs.drop (HT.sIx xs.length 0 lo)).take (HT.sIx xs.length xs.length hi - HT.sIx xs.length 0 lo)
theorem cutL_map {α β : Type} (f : α → β) (xs : List α) (lo hi : Option Int) : cutL (xs.map f) lo hi = (cutL xs lo hi).map f := by
  unfold cutL
  rw [List.length_map, ← List.map_drop, ← List.map_take]
section
variable {K : PySem.W.Frag} {S H : Hp}
theorem OwnL.drop : ∀ {ts : List T} {vs : List V} {F : List Addr} (n : Nat), OwnL K S H vs ts F → ∃ G, OwnL K S H (vs.drop n) (ts.drop n) G ∧ ∀ p ∈ G, p ∈ F
  | _, _, F, 0, h => ⟨F, h, fun _ q => q⟩
  | [], _, _, n + 1, h => by cases h; exact ⟨[], .nil, fun _ q => q⟩
  | t :: ts, _, _, n + 1, h => by
    cases h with
    | cons h1 h2 h3 =>
      obtain ⟨G, a, b⟩ := OwnL.drop n h2
      exact ⟨G, a, fun p hp => List.mem_append_right _ (b p hp)⟩
theorem OwnL.take : ∀ {ts : List T} {vs : List V} {F : List Addr} (n : Nat), OwnL K S H vs ts F → ∃ G, OwnL K S H (vs.take n) (ts.take n) G ∧ ∀ p ∈ G, p ∈ F
  | _, _, F, 0, h => ⟨[], .nil, fun _ q => nomatch q⟩
  | [], _, _, n + 1, h => by cases h; exact ⟨[], .nil, fun _ q => q⟩
  | t :: ts, _, _, n + 1, h => by
    cases h with
    | @cons v vs _ _ F1 F2 h1 h2 h3 =>
      obtain ⟨G, a, b⟩ := OwnL.take n h2
      refine ⟨F1 ++ G, .cons h1 a fun p hp hq => h3 p hp (b p hq), fun p hp => ?_⟩
      rcases List.mem_append.mp hp with hp | hp
      · exact List.mem_append_left _ hp
      · exact List.mem_append_right _ (b p hp)
theorem OwnL.cut {ts : List T} {vs : List V} {F : List Addr} (h : OwnL K S H vs ts F) (lo hi : Option Int) : ∃ G, OwnL K S H (cutV vs lo hi) (cutL ts lo hi) G ∧ ∀ p ∈ G, p ∈ F := by
  obtain ⟨G1, a1, b1⟩ := h.drop (HT.sIx vs.length 0 lo)
  obtain ⟨G2, a2, b2⟩ := a1.take (HT.sIx vs.length vs.length hi - HT.sIx vs.length 0 lo)
  refine ⟨G2, ?_, fun p hp => b1 p (b2 p hp)⟩
  have e : cutL ts lo hi = (ts.drop (HT.sIx vs.length 0 lo)).take (HT.sIx vs.length vs.length hi - HT.sIx vs.length 0 lo) := by
    unfold cutL
    rw [h.len]
  rw [e]
  exact a2
theorem RepL.cut {ds : List D} {vs : List V} (h : RepL K S vs ds) (lo hi : Option Int) : RepL K S (cutV vs lo hi) (cutL ds lo hi) := by
  obtain ⟨G, a, b⟩ := (OwnL.sh (H := S) h).cut lo hi
  rw [cutL_map] at a
  exact (OwnL.unsh a).1
end
def gSl (t : T) (lo hi : Option Int) (k : T → Prop) : Prop := match t.kids with
  | some (.lst, ts) => k (.node .lst (cutL ts lo hi))
  | some (.tup, ts) => k (.s (.node .tup ((cutL ts lo hi).map T.er)))
  | none => ∃ z, t = .s (.str z) ∧ z.length ≤ sizeLine ∧ k (.s (.str (cutS z lo hi)))
  | _ => False
theorem gSl_mono (t : T) (lo hi : Option Int) {P Q : T → Prop} (f : ∀ t, P t → Q t) (h : gSl t lo hi P) : gSl t lo hi Q := by
  unfold gSl at h ⊢
  split at h
  · exact f _ h
  · exact f _ h
  · obtain ⟨z, a, b, h⟩ := h
    exact ⟨z, a, b, f _ h⟩
  · exact h.elim
def pSl (pa : PX) (pl ph : PO') : PX := fun env k => pa env fun r => pl env fun lo => ph env fun hi => ∃ t, r.mv env = some t ∧ gSl t lo hi fun t => k (.va t)
section
variable {X : Cx} {a b e : Expr} {lo hi : Option Expr} {es : List Expr} {pos p2 : Pos} {pa pb p : PX} {ps : PAs} {k : Nat} {pl ph : PO'}
theorem do_none : PDO X none pNoPart := ⟨⟨tNoPart, po_none, fun σ H Q ⟨S, B, env, sr, q⟩ => q S B H (Gro.refl sr.sb sr.bh)⟩, fun env P Q f h => f _ h⟩
theorem do_some (h : PD X a pa) : PDO X (some a) (pPart pa) := by
  refine ⟨⟨tPart (tD X.K pa), po_some h.run, fun σ H Q ⟨S, B, env, sr, q⟩ => ⟨S, B, env, sr, h.mono env (fun r ⟨i, e, q⟩ S1 B1 v H1 g r1 => ?_) q⟩⟩, fun env P Q f h' => h.mono env (fun r ⟨i, e, q⟩ => ⟨i, e, f _ q⟩) h'⟩
  subst e
  obtain ⟨F, o, _⟩ := r1
  cases o with
  | s o =>
    cases o
    exact ⟨i, rfl, q S1 B1 H1 g⟩
def rSlU (K : PySem.W.Frag) : V → Option Int → Option Int → Hp → VK → Prop := fun x lo hi H Q => rSlL K x lo hi H Q ∨ rSlA K x lo hi H Q ∨ rSlS x lo hi H Q
theorem sl_all : SlR X (rSlU X.K) := sl_list.or (sl_tupA.or sl_str)
theorem d_sl (ha : PD X a pa) (hl : PDO X lo pl) (hh : PDO X hi ph) : PD X (.Subscript a (.Slice lo hi none p2) pos) (pSl pa pl ph) := by
  obtain ⟨tl, hl1, hl2⟩ := hl.po
  obtain ⟨th, hh1, hh2⟩ := hh.po
  refine ⟨PE.weak (pe_slice sl_all ha.run hl1 hh1) fun σ H Q ⟨S, B, env, sr, q⟩ => ?_, fun env P Q f h => ha.mono env (fun r h => hl.mono env (fun lo h => hh.mono env (fun hi ⟨t, e, h⟩ => ⟨t, e, gSl_mono _ _ _ (fun t h => f _ h) h⟩) h) h) h⟩
  refine ⟨S, B, env, sr, ha.mono env (fun ra q S1 B1 v1 H1 g1 r1 => hl2 _ _ _ ?_) q⟩
  refine ⟨S1, B1, env, sr.gro g1, hl.mono env (fun l q S2 B2 H2 g2 => hh2 _ _ _ ?_) q⟩
  refine ⟨S2, B2, env, (sr.gro g1).gro g2, hh.mono env (fun u q S3 B3 H3 g3 => ?_) q⟩
  obtain ⟨t, et, q⟩ := q
  have g23 := g2.trans g3
  have g13 := g1.trans g23
  have sr3 := (sr.gro g1).gro g23
  obtain ⟨F, o, na⟩ := r1.mvd sr3 g1.h g23 et
  have sh3 := sr3.sh
  unfold gSl at q
  split at q
  · rename_i ts hk
    obtain ⟨p, vs, ev, hn, hz, ol⟩ := o.kids sh3 hk
    obtain ⟨G, oc, hG⟩ := ol.cut l u
    refine .inl ⟨p, vs, ev, SqL.of hn, fun r hr => ?_⟩
    refine q S3 B3 _ _ (g13.trans (Gro.new g3.sb g3.bh hr)) ⟨_, own_new oc hr (Nat.le_trans (cutV_length _ _ _) hz), fun z hz => ?_⟩
    cases hz with
    | head => exact ⟨ex_none g13.h hr, ex_none g3.bh hr⟩
    | tail _ hz => exact ⟨(na z (hG z hz)).1, (na z (hG z hz)).2.1⟩
  · rename_i ts hk
    obtain ⟨p, vs, ds, ev, h1, rfl, e2, h3, h4⟩ := kids_tup o hk
    subst e2
    rw [cutL_map, er_s_map] at q
    refine .inr (.inl ⟨p, vs, ev, SqT.of (sh3 _ _ h1), fun ⟨w1, w2⟩ => ?_, fun _ r hr => ?_⟩)
    · have ec : cutV vs l u = vs := by
        unfold cutV
        rw [w1, w2, List.drop_zero, Nat.sub_zero, List.take_length]
      have rc := h3.cut l u
      rw [ec] at rc
      exact q S3 B3 _ _ g13 (RR.sc (.node (sh := .tup) h1 h4 rc))
    · have g4 := Gro.newS (o := .tup (cutV vs l u)) g3.sb g3.bh hr
      exact q _ _ _ _ (g13.trans g4) (RR.sc (.node (sh := .tup) upd_same (Nat.le_trans (cutV_length _ _ _) h4) ((h3.cut l u).mono g4.e.s)))
  · obtain ⟨z, e0, hz, q⟩ := q
    subst e0
    cases o with
    | s o =>
      cases o
      exact .inr (.inr ⟨z, rfl, hz, q S3 B3 _ _ g13 (RR.sc (.str _))⟩)
  · exact q.elim
theorem OwnL.snocR {K : PySem.W.Frag} {S H : Hp} : ∀ {ts : List T} {vs : List V} {F : List Addr}, OwnL K S H vs ts F → ∃ G, OwnL K S H vs.reverse ts.reverse G ∧ ∀ p ∈ G, p ∈ F
  | [], _, _, h => by cases h; exact ⟨[], .nil, fun _ q => q⟩
  | t :: ts, _, _, h => by
    cases h with
    | @cons v vs _ _ F1 F2 h1 h2 h3 =>
      obtain ⟨G, a, b⟩ := OwnL.snocR h2
      have one : OwnL K S H [v] [t] F1 := by
        have := OwnL.cons h1 (OwnL.nil) (fun p _ z => nomatch z)
        rwa [List.append_nil] at this
      refine ⟨G ++ F1, ?_, fun p hp => ?_⟩
      · rw [List.reverse_cons, List.reverse_cons]
        exact a.append one fun p hp hq => h3 p hq (b p hp)
      · rcases List.mem_append.mp hp with hp | hp
        · exact List.mem_append_right _ (b p hp)
        · exact List.mem_append_left _ hp
/-- xs[::-1] -/
def pRev (pa : PX) : PX := fun env k => pa env fun r => ∃ t ts, r.mv env = some t ∧ t.kids = some (.lst, ts) ∧ k (.va (.node .lst ts.reverse))
theorem d_rev {k : Nat} {p1 p2 p3 : Pos} (ha : PD X a pa) : PD X (.Subscript a (.Slice none none (some (.UnaryOp .USub (.Constant (.int 1) k p1) p2)) p3) pos) (pRev pa) := by
  refine ⟨PE.weak (pe_revL ha.run) fun σ H Q ⟨S, B, env, sr, q⟩ => ⟨S, B, env, sr, ha.mono env (fun ra ⟨t, ts, et, hk, q⟩ S1 B1 v1 H1 g1 r1 => ?_) q⟩, fun env P Q f h => ha.mono env (fun r ⟨t, ts, et, hk, q⟩ => ⟨t, ts, et, hk, f _ q⟩) h⟩
  have sr1 := sr.gro g1
  obtain ⟨F, o, na⟩ := r1.mvd sr1 g1.h (Gro.refl g1.sb g1.bh) et
  obtain ⟨p, vs, ev, hn, hz, ol⟩ := o.kids sr1.sh hk
  obtain ⟨G, oc, hG⟩ := ol.snocR
  refine ⟨p, vs, ev, SqL.of hn, fun r hr => ?_⟩
  refine q S1 B1 _ _ (g1.trans (Gro.new g1.sb g1.bh hr)) ⟨_, own_new oc hr (by rw [List.length_reverse]; exact hz), fun z hz => ?_⟩
  cases hz with
  | head => exact ⟨ex_none g1.h hr, ex_none g1.bh hr⟩
  | tail _ hz => exact ⟨(na z (hG z hz)).1, (na z (hG z hz)).2.1⟩
end

/-! ### built-in calls whose result is no object -/
def datsR (env : En) : List R → Option (List D)
  | [] => some []
  | r :: rs => match r.tr env, datsR env rs with
    | some t, some ds => some (t.er :: ds)
    | _, _ => none
theorem RRs.rep {K : PySem.W.Frag} {S1 B1 H H1 : Hp} {σ : L2.St} {env : En} (sr : SR K S1 B1 H1 σ env) : ∀ {vs : List V} {rs : List R} {G : List Addr} {ds : List D}, RRs K S1 B1 H H1 σ vs rs G → datsR env rs = some ds → RepL K H1 vs ds
  | _, _, _, _, .nil, e => by cases e; exact .nil
  | _, _, _, ds, @RRs.consT _ _ _ _ _ _ v vs t rs F G o q h d, e => by
    have e' : (match some t, datsR env rs with
      | some t, some ds => some (t.er :: ds)
      | _, _ => none) = some ds := e
    cases z : datsR env rs with
    | none => rw [z] at e'; cases e'
    | some us =>
      rw [z] at e'
      cases e'
      exact .cons (o.rep sr.sh) (RRs.rep sr h z)
  | _, _, _, ds, @RRs.consB _ _ _ _ _ _ v v0 vs i π rs G e0 a h, e => by
    have e' : (match look env i π, datsR env rs with
      | some t, some ds => some (t.er :: ds)
      | _, _ => none) = some ds := e
    cases y : look env i π with
    | none => rw [y] at e'; cases e'
    | some t =>
      cases z : datsR env rs with
      | none => rw [y, z] at e'; cases e'
      | some us =>
        rw [y, z] at e'
        cases e'
        have rr : RR K S1 B1 H H1 σ v (.bo i π) := ⟨v0, e0, a⟩
        exact .cons (rr.rep sr (show R.tr env (.bo i π) = some t from y)) (RRs.rep sr h z)
def ScC (K : PySem.W.Frag) (r : List V → Hp → VK → Prop) (g : List D → (D → Prop) → Prop) : Prop :=
  ∀ (H : Hp) (vs : List V) (ds : List D) (k : D → Prop) (Q : VK), RepL K H vs ds → g ds k → (∀ v a, RepA v a → k a → Q v H) → r vs H Q
abbrev MonoC (g : List D → (D → Prop) → Prop) : Prop := ∀ (ds : List D) {P Q : D → Prop}, (∀ b, P b → Q b) → g ds P → g ds Q
def pCB (g : List D → (D → Prop) → Prop) (ps : PAs) : PX := fun env k => ps env fun rs => ∃ ds, datsR env rs = some ds ∧ g ds fun d => k (.va (.s d))
section
variable {X : Cx} {a b e : Expr} {es : List Expr} {pos p : Pos} {pa pb : PX} {ps : PAs} {k : Nat} {x : Str} {id T' : String} {r : List V → Hp → VK → Prop} {g : List D → (D → Prop) → Prop}
theorem callS (sc : ScC X.K r g) (h : PDA X (e :: es) ps) (σ : L2.St) (H : Hp) (Q : VK) (q : tD X.K (pCB g ps) σ H Q) : tCB r (tDA X.K ps) σ H Q := by
  obtain ⟨S, B, env, sr, q⟩ := q
  refine ⟨S, B, env, sr, h.mono env (fun rs ⟨ds, e, q⟩ S1 B1 vs H1 G g1 r1 => ?_) q⟩
  exact sc H1 vs ds _ _ (r1.rep (sr.gro g1) e) q fun v d rd q => q S1 B1 v H1 g1 (RR.sc (rd _ _))
theorem callS_mono (mg : MonoC g) (h : PDA X (e :: es) ps) : Mono (pCB g ps) := fun env P Q f q => h.mono env (fun rs ⟨ds, e, q⟩ => ⟨ds, e, mg _ (fun d q => f _ q) q⟩) q
theorem d_callB (hc : CallR X (.builtin id) r) (sc : ScC X.K r g) (mg : MonoC g) (hg : Gl X x) (hm : X.mg x = none) (hv : bootBuiltins x = some (.builtin id)) (h : PDA X (e :: es) ps) (hn : x ≠ "__name__" := by decide) (hdb : (x == ("__debug__" : Str)) = false := by decide)
    (he : starEach (e :: es) X.env = (false, eval e X.env) :: starEach es X.env := by rfl) (hpl : (backTo pos (starEach es X.env)).any (·.1) = false := by rfl) : PD X (.Call (.Name x p) (e :: es) [] pos) (pCB g ps) :=
  ⟨PE.weak (pe_callB hc hg hm hv h.run hn hdb he hpl) (callS sc h), callS_mono mg h⟩
end
end PL

/-! The pure layer, part 6: len, int, min, max, sum, sorted, list, tuple, isinstance. -/
namespace PL
open PySem L2

/-! ### len -/
def gLen : List D → (D → Prop) → Prop
  | [.node .lst ds], k => k (.int ds.length)
  | [.node .tup ds], k => k (.int ds.length)
  | [.node .ro ds], k => k (.int ds.length)
  | [.node (.dK ks) ds], k => k (.int ks.length)
  | [.node (.dT ks) ds], k => k (.int ks.length)
  | [.str z], k => z.length ≤ sizeLine ∧ k (.int z.length)
  | _, _ => False
theorem mono_len : MonoC gLen := fun ds P Q f h => by
  unfold gLen at h ⊢
  split at h
  · exact f _ h
  · exact f _ h
  · exact f _ h
  · exact f _ h
  · exact f _ h
  · exact ⟨h.1, f _ h.2⟩
  · exact h.elim
def rLenD : List V → Hp → VK → Prop := fun xs H Q => ∃ (p : Addr) (kvs : List (Key × V)), xs = [.ref p] ∧ Rd H p (.dK kvs) ∧ Q (.int ((kvs.length : Nat) : Int)) H
theorem call_lenD0 {X : Cx} : CallR X (.builtin "len") rLenD := by
  intro pins s σ H xs us Q I r h
  obtain ⟨p, kvs, rfl, e, q⟩ := h
  obtain ⟨u, rfl, rx⟩ := vals1 r
  cases rx
  exact d_len I e fun t s' I' => ⟨.int _, H, I', ⟨t, rfl⟩, q⟩
def rLenTR : List V → Hp → VK → Prop := fun xs H Q => ∃ (p : Addr) (kvs : List (List Key × V)), xs = [.ref p] ∧ Rd H p (.dT kvs) ∧ Q (.int ((kvs.length : Nat) : Int)) H
theorem call_lenT0 {X : Cx} : CallR X (.builtin "len") rLenTR := by
  intro pins s σ H xs us Q I r h
  obtain ⟨p, kvs, rfl, hp, q⟩ := h
  obtain ⟨u, rfl, rx⟩ := vals1 r
  cases rx
  obtain ⟨z, hd, ys, rel, dd⟩ := dt_rd I.hok hp
  have el : kvs.length = ys.length := Paired.length rel
  have z2 := sizeLine_eq
  refine call_len_dictH hd dd (by omega) ?_
  rw [← el]
  exact ⟨.int _, H, I.tok _, ⟨_, rfl⟩, q⟩
def rLenU (K : PySem.W.Frag) : List V → Hp → VK → Prop := fun xs H Q => (∃ x n, xs = [x] ∧ LenV K x H n ∧ Q (.int n) H) ∨ rLenD xs H Q ∨ rLenTR xs H Q
theorem call_lenU {X : Cx} : CallR X (.builtin "len") (rLenU X.K) := call_len.or (call_lenD0.or call_lenT0)
theorem RepL.one {K : PySem.W.Frag} {S : Hp} {vs : List V} {d : D} (h : RepL K S vs [d]) : ∃ v, vs = [v] ∧ Rep K S v d := by
  cases h with
  | cons h1 h2 => cases h2; exact ⟨_, rfl, h1⟩
theorem RepL.two {K : PySem.W.Frag} {S : Hp} {vs : List V} {d e : D} (h : RepL K S vs [d, e]) : ∃ v w, vs = [v, w] ∧ Rep K S v d ∧ Rep K S w e := by
  cases h with
  | cons h1 h2 =>
    obtain ⟨w, rfl, h3⟩ := h2.one
    exact ⟨_, w, rfl, h1, h3⟩
theorem len_zip {α β : Type} {a : List α} {b : List β} (h : a.length = b.length) : (a.zip b).length = a.length := by
  rw [List.length_zip, ← h, Nat.min_self]
theorem sc_len {K : PySem.W.Frag} : ScC K (rLenU K) gLen := fun H vs ds k Q h g q => by
  unfold gLen at g
  split at g
  · obtain ⟨v, rfl, hr⟩ := h.one
    cases hr with
    | node h1 h2 h3 =>
      rw [← h3.len] at g
      exact .inl ⟨_, _, rfl, .inl ⟨_, SqL.of h1, rfl⟩, q _ _ (repA_int _) g⟩
  · obtain ⟨v, rfl, hr⟩ := h.one
    cases hr with
    | node h1 h2 h3 =>
      rw [← h3.len] at g
      exact .inl ⟨_, _, rfl, .inr ⟨_, SqT.of h1, rfl⟩, q _ _ (repA_int _) g⟩
  · obtain ⟨v, rfl, hr⟩ := h.one
    cases hr with
    | node h1 h2 h3 =>
      rw [← h3.len] at g
      exact .inl ⟨_, _, rfl, .inl ⟨_, h1, rfl⟩, q _ _ (repA_int _) g⟩
  · obtain ⟨v, rfl, hr⟩ := h.one
    cases hr with
    | node h1 h2 h3 =>
      refine .inr (.inl ⟨_, _, rfl, h1.2, ?_⟩)
      rw [len_zip h1.1]
      exact q _ _ (repA_int _) g
  · obtain ⟨v, rfl, hr⟩ := h.one
    cases hr with
    | node h1 h2 h3 =>
      refine .inr (.inr ⟨_, _, rfl, h1.2, ?_⟩)
      rw [len_zip h1.1]
      exact q _ _ (repA_int _) g
  · obtain ⟨v, rfl, hr⟩ := h.one
    cases hr
    exact .inl ⟨_, _, rfl, ⟨g.1, rfl⟩, q _ _ (repA_int _) g.2⟩
  · exact g.elim

/-! ### int, abs, min, max, sum -/
def gInt : List D → (D → Prop) → Prop
  | [.int i], k => k (.int i)
  | [.bl b], k => k (.int (if b then 1 else 0))
  | _, _ => False
def gAbs : List D → (D → Prop) → Prop
  | [.int i], k => k (.int (if i < 0 then -i else i))
  | _, _ => False
def intsD : List D → Option (List Int)
  | [] => some []
  | .int i :: ds => (intsD ds).map (i :: ·)
  | _ => none
theorem intsD_map : ∀ ns : List Int, intsD (ns.map D.int) = some ns
  | [] => rfl
  | n :: ns => by
    show (intsD (ns.map D.int)).map (n :: ·) = _
    rw [intsD_map ns]
    rfl
theorem intsD_rep {K : PySem.W.Frag} {S : Hp} : ∀ {ds : List D} {vs : List V} {ns : List Int}, RepL K S vs ds → intsD ds = some ns → vs = ns.map V.int ∧ ds = ns.map D.int
  | [], _, _, h, e => by cases h; cases e; exact ⟨rfl, rfl⟩
  | d :: ds, _, _, h, e => by
    cases h with
    | cons h1 h2 =>
      cases d <;> try (cases e)
      cases h1
      cases z : intsD ds with
      | none =>
        have e' : (intsD ds).map (_ :: ·) = some _ := e
        rw [z] at e'
        cases e'
      | some ms =>
        have e' : (intsD ds).map (_ :: ·) = some _ := e
        rw [z] at e'
        cases e'
        obtain ⟨a, b⟩ := intsD_rep h2 z
        exact ⟨by rw [a]; rfl, by rw [b]; rfl⟩
def gSum : List D → (D → Prop) → Prop
  | [.node .lst ds], k => ∃ ns, intsD ds = some ns ∧ k (.int ns.sum)
  | _, _ => False
def gMin : List D → (D → Prop) → Prop
  | [.int i, .int j], k => k (.int (if j < i then j else i))
  | [.node .lst ds], k => ∃ ns, intsD ds = some ns ∧ 0 < ns.length ∧ ∀ m, m ∈ ns → (∀ y ∈ ns, m ≤ y) → k (.int m)
  | _, _ => False
def gMax : List D → (D → Prop) → Prop
  | [.int i, .int j], k => k (.int (if j > i then j else i))
  | [.node .lst ds], k => ∃ ns, intsD ds = some ns ∧ 0 < ns.length ∧ ∀ m, m ∈ ns → (∀ y ∈ ns, y ≤ m) → k (.int m)
  | _, _ => False
theorem mono_int : MonoC gInt := fun ds P Q f h => by
  unfold gInt at h ⊢
  split at h
  · exact f _ h
  · exact f _ h
  · exact h.elim
theorem mono_abs : MonoC gAbs := fun ds P Q f h => by
  unfold gAbs at h ⊢
  split at h
  · exact f _ h
  · exact h.elim
theorem mono_sum : MonoC gSum := fun ds P Q f h => by
  unfold gSum at h ⊢
  split at h
  · obtain ⟨ns, a, h⟩ := h
    exact ⟨ns, a, f _ h⟩
  · exact h.elim
theorem mono_min : MonoC gMin := fun ds P Q f h => by
  unfold gMin at h ⊢
  split at h
  · exact f _ h
  · obtain ⟨ns, a, b, h⟩ := h
    exact ⟨ns, a, b, fun m x y => f _ (h m x y)⟩
  · exact h.elim
theorem mono_max : MonoC gMax := fun ds P Q f h => by
  unfold gMax at h ⊢
  split at h
  · exact f _ h
  · obtain ⟨ns, a, b, h⟩ := h
    exact ⟨ns, a, b, fun m x y => f _ (h m x y)⟩
  · exact h.elim
theorem sc_int {K : PySem.W.Frag} : ScC K (fun xs H Q => (∃ i, xs = [.int i] ∧ Q (.int i) H) ∨ ∃ k, xs = [.bl k] ∧ Q (.int (if k then 1 else 0)) H) gInt := fun H vs ds k Q h g q => by
  unfold gInt at g
  split at g
  · obtain ⟨v, rfl, hr⟩ := h.one
    cases hr
    exact .inl ⟨_, rfl, q _ _ (repA_int _) g⟩
  · obtain ⟨v, rfl, hr⟩ := h.one
    cases hr
    exact .inr ⟨_, rfl, q _ _ (repA_int _) g⟩
  · exact g.elim
theorem sc_abs {K : PySem.W.Frag} : ScC K (fun xs H Q => ∃ i, xs = [.int i] ∧ Q (.int (if i < 0 then -i else i)) H) gAbs := fun H vs ds k Q h g q => by
  unfold gAbs at g
  split at g
  · obtain ⟨v, rfl, hr⟩ := h.one
    cases hr
    exact ⟨_, rfl, q _ _ (repA_int _) g⟩
  · exact g.elim
theorem sc_sum {K : PySem.W.Frag} : ScC K (rSum K) gSum := fun H vs ds k Q h g q => by
  unfold gSum at g
  split at g
  · obtain ⟨ns, e, g⟩ := g
    obtain ⟨v, rfl, hr⟩ := h.one
    cases hr with
    | node h1 h2 h3 =>
      obtain ⟨rfl, _⟩ := intsD_rep h3 e
      exact ⟨_, ns, rfl, SqL.of h1, q _ _ (repA_int _) g⟩
  · exact g.elim
theorem sc_min {K : PySem.W.Frag} : ScC K (fun xs H Q => (∃ i j, xs = [.int i, .int j] ∧ Q (.int (if j < i then j else i)) H) ∨ rMin K xs H Q) gMin := fun H vs ds k Q h g q => by
  unfold gMin at g
  split at g
  · obtain ⟨v, w, rfl, hr, hr'⟩ := h.two
    cases hr
    cases hr'
    exact .inl ⟨_, _, rfl, q _ _ (repA_int _) g⟩
  · obtain ⟨ns, e, l, g⟩ := g
    obtain ⟨v, rfl, hr⟩ := h.one
    cases hr with
    | node h1 h2 h3 =>
      obtain ⟨rfl, _⟩ := intsD_rep h3 e
      exact .inr ⟨_, ns, rfl, SqL.of h1, l, fun m a b => q _ _ (repA_int _) (g m a b)⟩
  · exact g.elim
theorem sc_max {K : PySem.W.Frag} : ScC K (fun xs H Q => (∃ i j, xs = [.int i, .int j] ∧ Q (.int (if j > i then j else i)) H) ∨ rMax K xs H Q) gMax := fun H vs ds k Q h g q => by
  unfold gMax at g
  split at g
  · obtain ⟨v, w, rfl, hr, hr'⟩ := h.two
    cases hr
    cases hr'
    exact .inl ⟨_, _, rfl, q _ _ (repA_int _) g⟩
  · obtain ⟨ns, e, l, g⟩ := g
    obtain ⟨v, rfl, hr⟩ := h.one
    cases hr with
    | node h1 h2 h3 =>
      obtain ⟨rfl, _⟩ := intsD_rep h3 e
      exact .inr ⟨_, ns, rfl, SqL.of h1, l, fun m a b => q _ _ (repA_int _) (g m a b)⟩
  · exact g.elim
section
variable {X : Cx} {a b e : Expr} {es : List Expr} {pos p : Pos} {pa pb : PX} {ps : PAs} {k : Nat} {x : Str} {id T' : String} {r : List V → Hp → VK → Prop} {g : List D → (D → Prop) → Prop}
theorem d_callTy (hc : CallR X (.type T') r) (sc : ScC X.K r g) (mg : MonoC g) (hg : Gl X x) (hm : X.mg x = none) (hv : bootBuiltins x = some (.type T')) (h : PDA X (e :: es) ps) (hn : x ≠ "__name__" := by decide) (hdb : (x == ("__debug__" : Str)) = false := by decide)
    (he : starEach (e :: es) X.env = (false, eval e X.env) :: starEach es X.env := by rfl) (hpl : (backTo pos (starEach es X.env)).any (·.1) = false := by rfl) : PD X (.Call (.Name x p) (e :: es) [] pos) (pCB g ps) :=
  ⟨PE.weak (pe_callTy hc hg hm hv h.run hn hdb he hpl) (callS sc h), callS_mono mg h⟩
variable (h : PDA X (e :: es) ps) (he : starEach (e :: es) X.env = (false, eval e X.env) :: starEach es X.env := by rfl) (hpl : (backTo pos (starEach es X.env)).any (·.1) = false := by rfl)
theorem d_len (hg : Gl X "len") (hm : X.mg "len" = none) (h : PDA X (e :: es) ps) (he : starEach (e :: es) X.env = (false, eval e X.env) :: starEach es X.env := by rfl) (hpl : (backTo pos (starEach es X.env)).any (·.1) = false := by rfl) : PD X (.Call (.Name "len" p) (e :: es) [] pos) (pCB gLen ps) := d_callB call_lenU sc_len mono_len hg hm PySem.boot_len h (by decide) (by decide) he hpl
theorem d_intc (hg : Gl X "int") (hm : X.mg "int" = none) (h : PDA X (e :: es) ps) (he : starEach (e :: es) X.env = (false, eval e X.env) :: starEach es X.env := by rfl) (hpl : (backTo pos (starEach es X.env)).any (·.1) = false := by rfl) : PD X (.Call (.Name "int" p) (e :: es) [] pos) (pCB gInt ps) := d_callTy call_int1 sc_int mono_int hg hm (by decide +kernel) h (by decide) (by decide) he hpl
theorem d_abs (hg : Gl X "abs") (hm : X.mg "abs" = none) (h : PDA X (e :: es) ps) (he : starEach (e :: es) X.env = (false, eval e X.env) :: starEach es X.env := by rfl) (hpl : (backTo pos (starEach es X.env)).any (·.1) = false := by rfl) : PD X (.Call (.Name "abs" p) (e :: es) [] pos) (pCB gAbs ps) := d_callB call_abs sc_abs mono_abs hg hm (by decide +kernel) h (by decide) (by decide) he hpl
theorem d_sum (hc : X.calm = true) (hg : Gl X "sum") (hm : X.mg "sum" = none) (h : PDA X (e :: es) ps) (he : starEach (e :: es) X.env = (false, eval e X.env) :: starEach es X.env := by rfl) (hpl : (backTo pos (starEach es X.env)).any (·.1) = false := by rfl) : PD X (.Call (.Name "sum" p) (e :: es) [] pos) (pCB gSum ps) := d_callB (cr_sum hc) sc_sum mono_sum hg hm (by decide +kernel) h (by decide) (by decide) he hpl
theorem d_min (hc : X.calm = true) (hg : Gl X "min") (hm : X.mg "min" = none) (h : PDA X (e :: es) ps) (he : starEach (e :: es) X.env = (false, eval e X.env) :: starEach es X.env := by rfl) (hpl : (backTo pos (starEach es X.env)).any (·.1) = false := by rfl) : PD X (.Call (.Name "min" p) (e :: es) [] pos) (pCB gMin ps) := d_callB ((call_min2 hc).or (cr_min hc)) sc_min mono_min hg hm (by decide +kernel) h (by decide) (by decide) he hpl
theorem d_max (hc : X.calm = true) (hg : Gl X "max") (hm : X.mg "max" = none) (h : PDA X (e :: es) ps) (he : starEach (e :: es) X.env = (false, eval e X.env) :: starEach es X.env := by rfl) (hpl : (backTo pos (starEach es X.env)).any (·.1) = false := by rfl) : PD X (.Call (.Name "max" p) (e :: es) [] pos) (pCB gMax ps) := d_callB ((call_max2 hc).or (cr_max hc)) sc_max mono_max hg hm (by decide +kernel) h (by decide) (by decide) he hpl
end

/-! ### calls of one argument that make an object of its items -/
def pC1 (g : T → (T → Prop) → Prop) (p : PX) : PX := fun env k => p env fun r => ∃ t, r.mv env = some t ∧ g t fun t => k (.va t)
abbrev MonoT (g : T → (T → Prop) → Prop) : Prop := ∀ (t : T) {P Q : T → Prop}, (∀ b, P b → Q b) → g t P → g t Q
def Ok1 (K : PySem.W.Frag) (r : List V → Hp → VK → Prop) (g : T → (T → Prop) → Prop) : Prop :=
  ∀ (S B H : Hp) (x : V) (a : T) (F : List Addr) (Q : VK) (k : T → Prop), Ex S B → Ex B H → Own K S H x a F → (∀ p ∈ F.tail, B p = none) → g a k →
    (∀ (t : T) (S' B' : Hp) (v : V) (H' : Hp) (F' : List Addr), Add2 S B H S' B' H' (fun p => p ∈ F.tail) → Own K S' H' v t F' → (∀ p ∈ F', (p ∈ F.tail ∨ H p = none) ∧ B' p = none) → k t → Q v H') → r [x] H Q
section
variable {X : Cx} {a b e : Expr} {es : List Expr} {pos p : Pos} {pa pb : PX} {ps : PAs} {k : Nat} {x : Str} {id T' : String} {r : List V → Hp → VK → Prop} {g : T → (T → Prop) → Prop}
theorem call1 (ok : Ok1 X.K r g) (h : PD X a pa) (σ : L2.St) (H : Hp) (Q : VK) (q : tD X.K (pC1 g pa) σ H Q) : tCB r (tCons (tD X.K pa) tNil) σ H Q := by
  obtain ⟨S, B, env, sr, q⟩ := q
  refine ⟨S, B, env, sr, h.mono env (fun ra ⟨t, et, q⟩ S1 B1 v H1 g1 r1 => ?_) q⟩
  obtain ⟨F, o, na⟩ := r1.mvd (sr.gro g1) g1.h (Gro.refl g1.sb g1.bh) et
  refine ok S1 B1 H1 v t F Q _ g1.sb g1.bh o (fun p hp => (na p hp).2.1) q fun t S' B' v H' F' ad o' fr kt => ?_
  have fresh : ∀ p, p ∈ F.tail ∨ H1 p = none → H p = none ∧ B1 p = none := fun p hp => by
    rcases hp with z | z
    · exact ⟨(na p z).1, (na p z).2.1⟩
    · exact ⟨ex_none g1.h z, ex_none g1.bh z⟩
  refine kt S' B' v H' ⟨g1.h.trans ad.h, ⟨g1.e.s.trans ad.s, g1.e.b.trans ad.b, fun p a b => ?_⟩, fun p a b => ?_, ad.sb, ad.bh⟩ ⟨F', o', fun p hp => ⟨(fresh p (fr p hp).1).1, (fr p hp).2⟩⟩
  · cases z : S1 p with
    | none => exact ex_none g1.e.b (fresh p (ad.sn p a z)).2
    | some o => exact g1.e.n p (by rw [z]; exact fun z => nomatch z) b
  · cases z : B1 p with
    | none => exact (fresh p (ad.bn p a z)).1
    | some o => exact g1.n p (by rw [z]; exact fun z => nomatch z) b
theorem call1_mono (mg : MonoT g) (h : PD X a pa) : Mono (pC1 g pa) := fun env P Q f q => h.mono env (fun r ⟨t, et, q⟩ => ⟨t, et, mg _ (fun t q => f _ q) q⟩) q
theorem d_callB1 (hc : CallR X (.builtin id) r) (ok : Ok1 X.K r g) (mg : MonoT g) (hg : Gl X x) (hm : X.mg x = none) (hv : bootBuiltins x = some (.builtin id)) (h : PD X a pa) (hn : x ≠ "__name__" := by decide) (hdb : (x == ("__debug__" : Str)) = false := by decide)
    (he : starEach [a] X.env = (false, eval a X.env) :: starEach [] X.env := by rfl) : PD X (.Call (.Name x p) [a] [] pos) (pC1 g pa) :=
  ⟨PE.weak (pe_callB hc hg hm hv (pa_cons h.run pa_nil he) hn hdb he rfl) (call1 ok h), call1_mono mg h⟩
theorem d_callTy1 (hc : CallR X (.type T') r) (ok : Ok1 X.K r g) (mg : MonoT g) (hg : Gl X x) (hm : X.mg x = none) (hv : bootBuiltins x = some (.type T')) (h : PD X a pa) (hn : x ≠ "__name__" := by decide) (hdb : (x == ("__debug__" : Str)) = false := by decide)
    (he : starEach [a] X.env = (false, eval a X.env) :: starEach [] X.env := by rfl) : PD X (.Call (.Name x p) [a] [] pos) (pC1 g pa) :=
  ⟨PE.weak (pe_callTy hc hg hm hv (pa_cons h.run pa_nil he) hn hdb he rfl) (call1 ok h), call1_mono mg h⟩
end
def gList (t : T) (k : T → Prop) : Prop := match t.kids with
  | some (.lst, ts) => k (.node .lst ts)
  | some (.tup, ts) => k (.node .lst ts)
  | some (.ro, ts) => k (.node .lst ts)
  | _ => False
def gTuple (t : T) (k : T → Prop) : Prop := match t.kids with
  | some (.lst, ts) => k (.s (.node .tup (ts.map T.er)))
  | some (.tup, ts) => k (.s (.node .tup (ts.map T.er)))
  | some (.ro, ts) => k (.s (.node .tup (ts.map T.er)))
  | _ => False
/-- sorted, of whole numbers -/
def gSortI (t : T) (k : T → Prop) : Prop := match t.kids with
  | some (.lst, ts) => ∃ ns : List Int, ts = ns.map (fun n => T.s (.int n)) ∧ ∀ ns' : List Int, ns'.Perm ns → ns'.Pairwise (· ≤ ·) → k (.node .lst (ns'.map fun n => T.s (.int n)))
  | _ => False
theorem mono_list : MonoT gList := fun t P Q f h => by
  unfold gList at h ⊢
  split at h
  · exact f _ h
  · exact f _ h
  · exact f _ h
  · exact h.elim
theorem mono_tuple : MonoT gTuple := fun t P Q f h => by
  unfold gTuple at h ⊢
  split at h
  · exact f _ h
  · exact f _ h
  · exact f _ h
  · exact h.elim
theorem mono_sortI : MonoT gSortI := fun t P Q f h => by
  unfold gSortI at h ⊢
  split at h
  · obtain ⟨ns, a, h⟩ := h
    exact ⟨ns, a, fun m x y => f _ (h m x y)⟩
  · exact h.elim
theorem NodeR.sq {K : PySem.W.Frag} {H : Hp} {p : Addr} {vs : List V} {sh : Shape} (h : NodeR K H p sh vs) (e : sh = .lst ∨ sh = .tup ∨ sh = .ro) : SqL K H p vs ∨ SqT K H p vs := by
  rcases e with rfl | rfl | rfl
  · exact .inl (SqL.of h)
  · exact .inr (SqT.of h)
  · exact .inl h
theorem ok_list {K : PySem.W.Frag} : Ok1 K (fun xs H Q => ∃ p ys, xs = [.ref p] ∧ (SqL K H p ys ∨ SqT K H p ys) ∧ ∀ l, H l = none → Q (.ref l) (upd H l (.lst ys))) gList := fun S B H x a F Q k sb bh o nb g q => by
  have fin : ∀ {sh : Shape} {ts : List T}, a.kids = some (sh, ts) → (sh = .lst ∨ sh = .tup ∨ sh = .ro) → k (.node .lst ts) → ∃ p ys, [x] = [V.ref p] ∧ (SqL K H p ys ∨ SqT K H p ys) ∧ ∀ l, H l = none → Q (.ref l) (upd H l (.lst ys)) := fun hk e g => by
    obtain ⟨p, vs, rfl, hn, hz, ol⟩ := o.kids (sb.trans bh) hk
    refine ⟨p, vs, rfl, hn.sq e, fun l hl => ?_⟩
    refine q _ S B _ _ _ (.new sb bh hl) (own_new ol hl hz) (fun z hz => ?_) g
    cases hz with
    | head => exact ⟨.inr hl, ex_none bh hl⟩
    | tail _ hz => exact ⟨.inl hz, nb z hz⟩
  unfold gList at g
  split at g
  · rename_i ts hk
    exact fin hk (.inl rfl) g
  · rename_i ts hk
    exact fin hk (.inr (.inl rfl)) g
  · rename_i ts hk
    exact fin hk (.inr (.inr rfl)) g
  · exact g.elim
/-- items frozen into a new tuple -/
theorem tup_new {K : PySem.W.Frag} {S B H : Hp} {ts : List T} {vs : List V} {F : List Addr} {l : Addr} (sb : Ex S B) (bh : Ex B H) (ol : OwnL K S H vs ts F) (nb : ∀ p ∈ F, B p = none) (hz : vs.length ≤ sizeLine) (hl : H l = none) :
    ∃ S' B', Add2 S B H S' B' (upd H l (.tup vs)) (fun p => p ∈ F) ∧ Rep K S' (.ref l) (.node .tup (ts.map T.er)) := by
  have sh := sb.trans bh
  have rp : RepL K (joinF S H F) vs (ers ts) := ol.frz (ex_joinF sh) fun z hz => joinF_in hz
  have s1 : Ex (joinF S H F) (joinF B H F) := joinF_two sb
  have b1 : Ex (joinF B H F) H := joinF_ex bh
  have g2 := Gro.newS (o := .tup vs) s1 b1 hl
  refine ⟨_, _, ⟨g2.h, (ex_joinF sh).trans g2.e.s, (ex_joinF bh).trans g2.e.b, g2.sb, g2.bh, fun p a b => ?_, fun p a b => ?_⟩, .node (sh := .tup) upd_same hz (by rw [← ers_map]; exact rp.mono g2.e.s)⟩
  · by_cases hp : p ∈ F
    · exact .inl hp
    · by_cases e : p = l
      · exact .inr (by rw [e]; exact hl)
      · rw [upd_ne e, joinF_out hp] at a
        exact absurd b a
  · by_cases hp : p ∈ F
    · exact .inl hp
    · by_cases e : p = l
      · exact .inr (by rw [e]; exact hl)
      · rw [upd_ne e, joinF_out hp] at a
        exact absurd b a
theorem ok_tuple {K : PySem.W.Frag} : Ok1 K (fun xs H Q => ∃ p ys, xs = [.ref p] ∧ ((SqL K H p ys ∧ ∀ l, H l = none → Q (.ref l) (upd H l (.tup ys))) ∨ (SqT K H p ys ∧ Q (.ref p) H))) gTuple := fun S B H x a F Q k sb bh o nb g q => by
  unfold gTuple at g
  split at g
  · rename_i ts hk
    obtain ⟨p, vs, rfl, hn, hz, ol⟩ := o.kids (sb.trans bh) hk
    refine ⟨p, vs, rfl, .inl ⟨SqL.of hn, fun l hl => ?_⟩⟩
    obtain ⟨S', B', ad, rp⟩ := tup_new sb bh ol nb hz hl
    exact q _ S' B' _ _ [] ad (.s rp) (fun _ z => nomatch z) g
  · rename_i ts hk
    obtain ⟨p, vs, ds, rfl, h1, rfl, rfl, h3, h4⟩ := kids_tup o hk
    rw [er_s_map] at g
    exact ⟨p, vs, rfl, .inr ⟨SqT.of (sb.trans bh _ _ h1), q _ S B _ _ [] (.refl sb bh) (.s (.node (sh := .tup) h1 h4 h3)) (fun _ z => nomatch z) g⟩⟩
  · rename_i ts hk
    obtain ⟨p, vs, rfl, hn, hz, ol⟩ := o.kids (sb.trans bh) hk
    refine ⟨p, vs, rfl, .inl ⟨hn, fun l hl => ?_⟩⟩
    obtain ⟨S', B', ad, rp⟩ := tup_new sb bh ol nb hz hl
    exact q _ S' B' _ _ [] ad (.s rp) (fun _ z => nomatch z) g
  · exact g.elim
theorem repL_ints {K : PySem.W.Frag} {S : Hp} : ∀ ns : List Int, RepL K S (ns.map V.int) (ns.map D.int)
  | [] => .nil
  | n :: ns => .cons (.int n) (repL_ints ns)
theorem map_s {α : Type} (f : α → D) (xs : List α) : (xs.map fun x => T.s (f x)) = (xs.map f).map T.s := by
  rw [List.map_map]
  rfl
theorem ok_sortI {K : PySem.W.Frag} : Ok1 K (rSortedI K) gSortI := fun S B H x a F Q k sb bh o nb g q => by
  unfold gSortI at g
  split at g
  · rename_i ts hk
    obtain ⟨ns, rfl, g⟩ := g
    obtain ⟨p, vs, rfl, hn, hz, ol⟩ := o.kids (sb.trans bh) hk
    rw [map_s] at ol
    obtain ⟨rp, _⟩ := OwnL.unsh ol
    obtain ⟨rfl, _⟩ := intsD_rep rp (intsD_map ns)
    refine ⟨p, ns, rfl, SqL.of hn, fun ns' l h1 h2 hl => ?_⟩
    have hz' : (ns'.map V.int).length ≤ sizeLine := by
      rw [List.length_map, h1.length_eq]
      rwa [List.length_map] at hz
    have kk := g ns' h1 h2
    rw [map_s] at kk
    refine q _ S B _ _ _ (.new sb bh hl) (own_new (OwnL.sh (repL_ints ns')) hl hz') (fun z hz => ?_) kk
    cases hz with
    | head => exact ⟨.inr hl, ex_none bh hl⟩
    | tail _ hz => cases hz
  · exact g.elim
section
variable {X : Cx} {a b e : Expr} {es : List Expr} {pos p : Pos} {pa pb : PX}
theorem d_list (hg : Gl X "list") (hm : X.mg "list" = none) (h : PD X a pa) (he : starEach [a] X.env = (false, eval a X.env) :: starEach [] X.env := by rfl) : PD X (.Call (.Name "list" p) [a] [] pos) (pC1 gList pa) := d_callTy1 call_list_of ok_list mono_list hg hm (by decide +kernel) h (by decide) (by decide) he
theorem d_tuple (hg : Gl X "tuple") (hm : X.mg "tuple" = none) (h : PD X a pa) (he : starEach [a] X.env = (false, eval a X.env) :: starEach [] X.env := by rfl) : PD X (.Call (.Name "tuple" p) [a] [] pos) (pC1 gTuple pa) := d_callTy1 call_tuple_of ok_tuple mono_tuple hg hm (by decide +kernel) h (by decide) (by decide) he
theorem d_sorted (hg : Gl X "sorted") (hm : X.mg "sorted" = none) (h : PD X a pa) (he : starEach [a] X.env = (false, eval a X.env) :: starEach [] X.env := by rfl) : PD X (.Call (.Name "sorted" p) [a] [] pos) (pC1 gSortI pa) := d_callB1 cr_sortedI ok_sortI mono_sortI hg hm (by decide +kernel) h (by decide) (by decide) he
end

/-! ### isinstance, of a built-in class -/
def tyD : D → Option String
  | .non => some "NoneType"
  | .bl _ => some "bool"
  | .int _ => some "int"
  | .str _ => some "str"
  | .node .lst _ => some "list"
  | .node .ro _ => some "list"
  | .node .tup _ => some "tuple"
  | .node (.dK _) _ => some "dict"
  | _ => none
def isiT (T ty : String) : Bool := (ty == T) || (T == "int" && ty == "bool")
def isiTs : List String := ["int", "bool", "str", "list", "tuple", "dict"]
theorem kit_tab : ∀ T ∈ isiTs, ∀ ty ∈ ["NoneType", "bool", "int", "str", "list", "tuple", "dict"], kitB ty T = some (isiT T ty) := by decide +kernel
theorem tyD_mem {d : D} {ty : String} (h : tyD d = some ty) : ty ∈ ["NoneType", "bool", "int", "str", "list", "tuple", "dict"] := by
  unfold tyD at h
  split at h <;> first | (cases h; simp) | cases h
def pIsi (T : String) (pa : PX) : PX := fun env k => pa env fun r => ∃ t ty, r.tr env = some t ∧ tyD t.er = some ty ∧ k (.va (.s (.bl (isiT T ty))))
theorem tyX_of {K : PySem.W.Frag} {H : Hp} {v : V} {d : D} {ty : String} (h : Rep K H v d) (e : tyD d = some ty) : TyX K H v (.type ty) := by
  cases h with
  | non => cases e; exact .base .non
  | bl => cases e; exact .base (.bl _)
  | int => cases e; exact .base (.int _)
  | str => cases e; exact .base (.str _)
  | @node p sh vs ds h1 h2 h3 =>
    cases sh with
    | lst => cases e; exact .base (.lst h1)
    | tup => cases e; exact .base (.tup h1)
    | ro =>
      cases e
      rcases h1 with (h1 | ⟨o, h1⟩) | ⟨o, its, n, k, c, _⟩
      · exact .base (.lst h1)
      · exact .base (.frz h1)
      · exact .kList k c
    | dK ks =>
      cases e
      rcases h1.2 with h1 | ⟨o, h1⟩
      · exact .base (.dK h1)
      · exact .fDict h1
    | dT ks => cases e
    | obj C ns => cases e
section
variable {X : Cx} {a : Expr} {pos p p' : Pos} {pa : PX} {x : Str} {T' : String}
theorem d_isi (hT : T' ∈ isiTs) (hg : Gl X "isinstance") (hm : X.mg "isinstance" = none) (hgT : Gl X x) (hmT : X.mg x = none) (hvT : bootBuiltins x = some (.type T')) (h : PD X a pa) (hn : x ≠ "__name__" := by decide) (hdb : (x == ("__debug__" : Str)) = false := by decide)
    (he : starEach [a, .Name x p'] X.env = (false, eval a X.env) :: starEach [.Name x p'] X.env := by rfl) (hpl : (backTo pos (starEach [.Name x p'] X.env)).any (·.1) = false := by rfl) (he2 : starEach [.Name x p'] X.env = (false, eval (.Name x p') X.env) :: starEach [] X.env := by rfl) :
    PD X (.Call (.Name "isinstance" p) [a, .Name x p'] [] pos) (pIsi T' pa) := by
  refine ⟨PE.weak (pe_callB call_isi hg hm (by decide +kernel) (pa_cons h.run (pa_cons (pe_bltn (v := .ty T') hgT hmT hvT rfl hn hdb) pa_nil he2) he) (by decide) (by decide) he hpl) fun σ H Q ⟨S, B, env, sr, q⟩ => ⟨S, B, env, sr, h.mono env (fun ra ⟨t, ty, et, e2, q⟩ S1 B1 v H1 g1 r1 => ?_) q⟩, fun env P Q f q => h.mono env (fun r ⟨t, ty, et, e2, q⟩ => ⟨t, ty, et, e2, f _ q⟩) q⟩
  have rp := r1.rep (sr.gro g1) et
  exact ⟨v, .ty T', .type ty, .type T', _, rfl, .ty T', tyX_of rp e2, kit_ty (kit_tab _ hT _ (tyD_mem e2)), q S1 B1 _ H1 g1 (RR.sc (.bl _))⟩
end
end PL

/-! The pure layer, part 7: the promise of a def, its call. -/
namespace PL
open PySem L2

def argCell (v : V) : T → Cell
  | .s d => .own none (.s d)
  | .node sh ks => .own (some v) (.node sh ks)
def argCells : List V → List T → En
  | v :: vs, t :: ts => argCell v t :: argCells vs ts
  | _, _ => []
/-- a def by its arguments, told to whoever wants its result and what has become of the arguments -/
abbrev FSp := List T → (T → List T → Prop) → Prop
def spF (K : PySem.W.Frag) (sp : FSp) : Sp := fun vs H Q _ => ∃ S B ts, SR K S B H (vs.map some) (argCells vs ts) ∧ vs.length = ts.length ∧ sp ts fun t outs => ∀ S' B' v H', Evo S B S' B' → SR K S' B' H' (some v :: vs.map some) (.own none t :: argCells vs outs) → Q v H'
mutual
def immD : D → Bool
  | .node .tup ds => immDs ds
  | .node _ _ => false
  | _ => true
def immDs : List D → Bool
  | [] => true
  | d :: ds => immD d && immDs ds
end
mutual
def immT : T → Bool
  | .s d => immD d
  | .node _ ts => immTs ts
def immTs : List T → Bool
  | [] => true
  | t :: ts => immT t && immTs ts
end
def anyBo : List R → Bool
  | [] => false
  | .bo _ _ :: _ => true
  | .va _ :: rs => anyBo rs
section
variable {K : PySem.W.Frag} {S S2 H : Hp}
mutual
theorem Rep.imm (e : ∀ p vs, S p = some (.tup vs) → S2 p = some (.tup vs)) : ∀ {d : D} {v : V}, Rep K S v d → immD d = true → Rep K S2 v d
  | .non, _, h, _ => by cases h; exact .non
  | .bl _, _, h, _ => by cases h; exact .bl _
  | .int _, _, h, _ => by cases h; exact .int _
  | .str _, _, h, _ => by cases h; exact .str _
  | .node .tup ds, _, h, i => by
    cases h with
    | node h1 h2 h3 => exact .node (sh := .tup) (e _ _ h1) h2 (RepL.imm e h3 (by simpa [immD] using i))
  | .node .lst _, _, _, i => by simp [immD] at i
  | .node .ro _, _, _, i => by simp [immD] at i
  | .node (.dK _) _, _, _, i => by simp [immD] at i
  | .node (.dT _) _, _, _, i => by simp [immD] at i
  | .node (.obj _ _) _, _, _, i => by simp [immD] at i
theorem RepL.imm (e : ∀ p vs, S p = some (.tup vs) → S2 p = some (.tup vs)) : ∀ {ds : List D} {vs : List V}, RepL K S vs ds → immDs ds = true → RepL K S2 vs ds
  | [], _, h, _ => by cases h; exact .nil
  | d :: ds, _, h, i => by
    have i' : immD d = true ∧ immDs ds = true := by simpa [immDs] using i
    cases h with
    | cons h1 h2 => exact .cons (Rep.imm e h1 i'.1) (RepL.imm e h2 i'.2)
end
mutual
theorem Own.imm (e : ∀ p vs, S p = some (.tup vs) → S2 p = some (.tup vs)) : ∀ {t : T} {v : V} {F : List Addr}, Own K S H v t F → immT t = true → Own K S2 H v t F
  | .s _, _, _, h, i => by
    cases h with
    | s h => exact .s (h.imm e (by simpa [immT] using i))
  | .node _ _, _, _, h, i => by
    cases h with
    | node h1 h2 h3 h4 h5 => exact .node h1 h2 h3 (OwnL.imm e h4 (by simpa [immT] using i)) h5
theorem OwnL.imm (e : ∀ p vs, S p = some (.tup vs) → S2 p = some (.tup vs)) : ∀ {ts : List T} {vs : List V} {F : List Addr}, OwnL K S H vs ts F → immTs ts = true → OwnL K S2 H vs ts F
  | [], _, _, h, _ => by cases h; exact .nil
  | t :: ts, _, _, h, i => by
    have i' : immT t = true ∧ immTs ts = true := by simpa [immTs] using i
    cases h with
    | cons h1 h2 h3 => exact .cons (Own.imm e h1 i'.1) (OwnL.imm e h2 i'.2) h3
end
end
section
variable {K : PySem.W.Frag} {S B H S' B' H' S1 B1 H1 Sc : Hp} {σ : L2.St} {env : En} {v : V} {r : R} {t : T} {F G Gs : List Addr}
/-- a borrowed tree is frozen with its slot -/
theorem bo_sh {i : Nat} {π : List Nat} (h : RR K S' B' H H' σ v (.bo i π)) (sl : SlotsOk K S' B' H' env σ Gs) (e : look env i π = some t) (es : Ex S' Sc) (k : ∀ p ∈ Gs, Sc p = H' p) : Rep K Sc v t.er := by
  obtain ⟨v0, e0, q⟩ := h
  have e' : (env[i]?).bind (fun c => c.tr.bind fun t => t.at π) = some t := e
  cases hc : env[i]? with
  | none => rw [hc] at e'; cases e'
  | some c =>
    rw [hc] at e'
    obtain ⟨ov, F, s1, s2, s3, _⟩ := sl.focus hc
    rw [e0] at s1
    cases s1
    cases c with
    | un => cases e'
    | own pin u =>
      obtain ⟨v', z1, z2, o, z3⟩ := s2
      cases z1
      obtain ⟨w, F', a1, a2, a3⟩ := o.path (show u.at π = some t from e')
      cases a1.inj q
      exact a2.frz es fun p hp => k p (s3 p (a3 p hp))
    | lk F0 u =>
      obtain ⟨_, v', z1, o, z3⟩ := s2
      cases z1
      obtain ⟨w, F', a1, a2, a3⟩ := o.path (show u.at π = some t from e')
      cases a1.inj q
      exact a2.frz es fun p hp => k p (s3 p (a3 p hp))
theorem RRs.sh (sl : SlotsOk K S1 B1 H1 env σ Gs) (es : Ex S1 Sc) : ∀ {vs : List V} {rs : List R} {G : List Addr} {ds : List D}, RRs K S1 B1 H H1 σ vs rs G → datsR env rs = some ds → (∀ p ∈ G, Sc p = H1 p) → (anyBo rs = true → ∀ p ∈ Gs, Sc p = H1 p) → RepL K Sc vs ds
  | _, _, _, _, .nil, e, _, _ => by cases e; exact .nil
  | _, _, _, ds, @RRs.consT _ _ _ _ _ _ v vs t rs F G o q h d, e, k1, k2 => by
    have e' : (match some t, datsR env rs with
      | some t, some ds => some (t.er :: ds)
      | _, _ => none) = some ds := e
    cases z : datsR env rs with
    | none => rw [z] at e'; cases e'
    | some us =>
      rw [z] at e'
      cases e'
      exact .cons (o.frz es fun p hp => k1 p (List.mem_append_left _ hp)) (RRs.sh sl es h z (fun p hp => k1 p (List.mem_append_right _ hp)) k2)
  | _, _, _, ds, @RRs.consB _ _ _ _ _ _ v v0 vs i π rs G e0 a h, e, k1, k2 => by
    have e' : (match look env i π, datsR env rs with
      | some t, some ds => some (t.er :: ds)
      | _, _ => none) = some ds := e
    cases y : look env i π with
    | none => rw [y] at e'; cases e'
    | some t =>
      cases z : datsR env rs with
      | none => rw [y, z] at e'; cases e'
      | some us =>
        rw [y, z] at e'
        cases e'
        have rr : RR K S1 B1 H H1 σ v (.bo i π) := ⟨v0, e0, a⟩
        exact .cons (bo_sh rr sl y es (k2 rfl)) (RRs.sh sl es h z k1 fun _ => k2 rfl)
theorem SlotOk.out {c : Cell} {ov : Option V} (h : SlotOk K S B H c ov F) (sb : Ex S B) : ∀ p ∈ F, S p = none := by
  cases c with
  | un => intro p hp; cases h; cases hp
  | own pin t =>
    obtain ⟨v, e1, e2, o, q⟩ := h
    exact fun p hp => ex_none sb (q p hp)
  | lk F0 t =>
    obtain ⟨_, v, e1, o, q⟩ := h
    exact fun p hp => (q p hp).2
theorem SlotsOk.out (sb : Ex S B) : ∀ {env : En} {σ : L2.St} {Gs : List Addr}, SlotsOk K S B H env σ Gs → ∀ p ∈ Gs, S p = none
  | _, _, _, .nil, _, hp => nomatch hp
  | _, _, _, .cons h1 h2 h3, p, hp => (List.mem_append.mp hp).elim (h1.out sb p) (SlotsOk.out sb h2 p)
theorem args_sh : ∀ {vs : List V} {ds : List D}, RepL K S vs ds → SlotsOk K S B H (argCells vs (ds.map T.s)) (vs.map some) []
  | _, _, .nil => .nil
  | _, _, .cons h1 h2 => .cons (F := []) (G := []) ⟨_, rfl, (fun _ z => nomatch z), Own.s h1, (fun _ z => nomatch z)⟩ (args_sh h2) fun _ z => nomatch z
/-- behind a call of a def all of whose arguments are only read -/
theorem call_back {vs : List V} {rs : List R} {cs : En} (sr : SR K S1 B1 H1 σ env) (sl : SlotsOk K S1 B1 H1 env σ Gs) (g1 : Gro S B H S1 B1 H1) (r : RRs K S1 B1 H H1 σ vs rs G)
    (ev : Evo (joinF S1 H1 (G ++ if anyBo rs then Gs else [])) H1 S' B') (sr' : SR K S' B' H' (some v :: vs.map some) (.own none t :: cs)) (im : anyBo rs = true → immT t = true) : ∃ S2 B2, Gro S B H S2 B2 H' ∧ RR K S2 B2 H H' σ v (.va t) := by
  generalize hFb : (if anyBo rs then Gs else []) = Fb at ev
  have hsub : ∀ p ∈ Fb, p ∈ Gs := fun p hp => by
    rw [← hFb] at hp
    split at hp
    · exact hp
    · cases hp
  have fb0 : ∀ p ∈ Fb, S1 p = none := fun p hp => SlotsOk.out sr.sb sl p (hsub p hp)
  have fbM : ∀ p ∈ Fb, ∃ o, H1 p = some o ∧ Mut (some o) := fun p hp => sl.ne p (hsub p hp)
  have hG : ∀ p ∈ G, H p = none ∧ B1 p = none ∧ H1 p ≠ none := fun p hp => by
    obtain ⟨o, a, b, c⟩ := r.dom p hp
    exact ⟨b, c, by rw [a]; exact fun z => nomatch z⟩
  have e1 : Ex H1 H' := ev.b.trans sr'.bh
  have ex1 : Ex H H' := g1.h.trans e1
  let S2 : Hp := fun p => if p ∈ Fb then none else S' p
  have S2in : ∀ {p}, p ∈ Fb → S2 p = none := fun h => if_pos h
  have S2out : ∀ {p}, p ∉ Fb → S2 p = S' p := fun h => if_neg h
  have S2le : Ex S2 S' := fun p o q => by
    by_cases hp : p ∈ Fb
    · rw [S2in hp] at q; cases q
    · rwa [S2out hp] at q
  let B2 : Hp := fun p => match S2 p with
    | some o => some o
    | none => joinF B1 H1 G p
  have B2s : ∀ {p o}, S2 p = some o → B2 p = some o := fun {p o} h => by
    show (match S2 p with
      | some o => some o
      | none => joinF B1 H1 G p) = some o
    rw [h]
  have B2n : ∀ {p}, S2 p = none → B2 p = joinF B1 H1 G p := fun {p} h => by
    show (match S2 p with
      | some o => some o
      | none => joinF B1 H1 G p) = _
    rw [h]
  have new : ∀ p, S2 p ≠ none → S1 p = none → p ∈ G ∨ H1 p = none := fun p a b => by
    by_cases hf : p ∈ Fb
    · exact absurd (S2in hf) a
    · rw [S2out hf] at a
      by_cases hg : p ∈ G
      · exact .inl hg
      · refine .inr (ev.n p a ?_)
        rw [joinF_out (by simp [hg, hf])]
        exact b
  obtain ⟨G0, sl0⟩ := sr'.sl
  cases sl0 with
  | @cons _ _ _ _ F G2 s1 s2 s3 =>
    obtain ⟨v', z1, _, o, nb⟩ := s1
    cases z1
    have fr : ∀ p ∈ F, H1 p = none := fun p hp => ex_none ev.b (nb p hp)
    refine ⟨S2, B2, ⟨ex1, ⟨fun p o q => ?_, fun p o q => ?_, fun p a b => ?_⟩, fun p a b => ?_, fun p o q => B2s q, fun p o q => ?_⟩, F, ?_, fun p hp => ⟨ex_none g1.h (fr p hp), ?_⟩⟩
    · have q1 := g1.e.s p o q
      have n1 : p ∉ Fb := fun z => by rw [fb0 p z] at q1; cases q1
      have n2 : p ∉ G := fun z => by
        have := g1.sb p o q1
        rw [(hG p z).2.1] at this
        cases this
      rw [S2out n1]
      refine ev.s p o ?_
      rw [joinF_out (by simp [n1, n2])]
      exact q1
    · have q1 := g1.e.b p o q
      have q2 := e1 p o (g1.bh p o q1)
      cases z : S2 p with
      | some u =>
        rw [B2s z]
        have := sr'.sh p u (S2le p u z)
        rw [q2] at this
        exact this.symm
      | none =>
        rw [B2n z]
        have n2 : p ∉ G := fun z => by rw [(hG p z).2.1] at q1; cases q1
        rw [joinF_out n2]
        exact q1
    · cases z : S1 p with
      | some u => exact g1.e.n p (by rw [z]; exact fun z => nomatch z) b
      | none =>
        rcases new p a z with y | y
        · exact ex_none g1.e.b (hG p y).2.1
        · exact ex_none g1.e.b (ex_none g1.bh y)
    · cases z : S2 p with
      | some u =>
        cases y : S1 p with
        | some w => exact g1.n p (by rw [g1.sb p w y]; exact fun z => nomatch z) b
        | none =>
          rcases new p (by rw [z]; exact fun z => nomatch z) y with x | x
          · exact (hG p x).1
          · exact ex_none g1.h x
      | none =>
        rw [B2n z] at a
        by_cases hg : p ∈ G
        · exact (hG p hg).1
        · rw [joinF_out hg] at a
          exact g1.n p a b
    · cases z : S2 p with
      | some u =>
        rw [B2s z] at q
        cases q
        exact sr'.sh p _ (S2le p _ z)
      | none =>
        rw [B2n z] at q
        by_cases hg : p ∈ G
        · rw [joinF_in hg] at q
          exact e1 p o q
        · rw [joinF_out hg] at q
          exact e1 p o (g1.bh p o q)
    · cases hb : anyBo rs with
      | false =>
        rw [hb] at hFb
        have hFb : Fb = [] := hFb.symm
        refine o.mono (fun p u q => ?_) fun _ _ => rfl
        rw [S2out (by rw [hFb]; exact fun z => nomatch z)]
        exact q
      | true =>
        refine o.imm (fun p ws q => ?_) (im hb)
        have n1 : p ∉ Fb := fun z => by
          obtain ⟨u, a, b⟩ := fbM p z
          have a := e1 p u a
          rw [sr'.sh p _ q] at a
          cases a
          exact b
        rw [S2out n1]
        exact q
    · have hn := nb p hp
      have z1 : S' p = none := ex_none sr'.sb hn
      have z : S2 p = none := ex_none S2le z1
      rw [B2n z]
      have n2 : p ∉ G := fun z => (hG p z).2.2 (fr p hp)
      rw [joinF_out n2]
      exact ex_none g1.bh (fr p hp)
end

/-- f(..), all arguments only read -/
def pCall (sp : FSp) (ps : PAs) : PX := fun env k => ps env fun rs => ∃ ds, datsR env rs = some ds ∧ sp (ds.map T.s) fun t _ => (anyBo rs = true → immT t = true) ∧ k (.va t)
abbrev MonoF (sp : FSp) : Prop := ∀ (ts : List T) {P Q : T → List T → Prop}, (∀ t us, P t us → Q t us) → sp ts P → sp ts Q
section
variable {X : Cx} {CX : CXT} {k : Nat} {f : Addr} {fd : FuncData} {ps : List Str} {sp : FSp} {E : XK} {x : Str} {p pos : Pos} {e : Expr} {es : List Expr} {pa : PAs}
theorem RRs.vlen {K : PySem.W.Frag} {S1 B1 H H1 : Hp} {σ : L2.St} {env : En} : ∀ {vs : List V} {rs : List R} {G : List Addr} {ds : List D}, RRs K S1 B1 H H1 σ vs rs G → datsR env rs = some ds → vs.length = ds.length
  | _, _, _, _, .nil, e => by cases e; rfl
  | _, _, _, ds, @RRs.consT _ _ _ _ _ _ v vs t rs F G o q h d, e => by
    have e' : (match some t, datsR env rs with
      | some t, some ds => some (t.er :: ds)
      | _, _ => none) = some ds := e
    cases z : datsR env rs with
    | none => rw [z] at e'; cases e'
    | some us =>
      rw [z] at e'
      cases e'
      rw [List.length_cons, List.length_cons, RRs.vlen h z]
  | _, _, _, ds, @RRs.consB _ _ _ _ _ _ v v0 vs i π rs G e0 a h, e => by
    have e' : (match look env i π, datsR env rs with
      | some t, some ds => some (t.er :: ds)
      | _, _ => none) = some ds := e
    cases y : look env i π with
    | none => rw [y] at e'; cases e'
    | some t =>
      cases z : datsR env rs with
      | none => rw [y, z] at e'; cases e'
      | some us =>
        rw [y, z] at e'
        cases e'
        rw [List.length_cons, List.length_cons, RRs.vlen h z]
theorem callF (mf : MonoF sp) (h : MonoA pa) {σ : L2.St} {H : Hp} {Q : VK} (q : tD X.K (pCall sp pa) σ H Q) : tCall (spF X.K sp) [] E (tDA X.K pa) σ H Q := by
  obtain ⟨S, B, env, sr, q⟩ := q
  refine ⟨S, B, env, sr, h env (fun rs ⟨ds, e, q⟩ S1 B1 vs H1 G g1 r1 => ?_) q⟩
  have sr1 := sr.gro g1
  obtain ⟨Gs, sl⟩ := sr1.sl
  show spF X.K sp (vs ++ []) H1 Q E
  rw [List.append_nil]
  have sh1 := sr1.sh
  refine ⟨joinF S1 H1 (G ++ if anyBo rs then Gs else []), H1, ds.map T.s, ⟨joinF_ex sh1, .refl _, [], args_sh (r1.sh sl (ex_joinF sh1) e (fun p hp => joinF_in (List.mem_append_left _ hp)) fun hb p hp => joinF_in (List.mem_append_right _ (by rw [hb]; exact hp)))⟩, by rw [List.length_map]; exact r1.vlen e, mf _ (fun t us ⟨im, q⟩ S' B' v H' ev sr' => ?_) q⟩
  obtain ⟨S2, B2, g2, r2⟩ := call_back sr1 sl g1 r1 ev sr' im
  exact q S2 B2 v H' g2 r2
theorem callF_mono (mf : MonoF sp) (h : MonoA pa) : Mono (pCall sp pa) := fun env P Q f q => h env (fun rs ⟨ds, e, q⟩ => ⟨ds, e, mf _ (fun t us ⟨im, q⟩ => ⟨im, f _ q⟩) q⟩) q
theorem d_call (F : FnOk X.prog X.w X.K X.mg X.base CX k f fd ps (spF X.K sp)) (mf : MonoF sp) (hr : Room k X.A) (hg : Gl X x) (hm : X.mg x = some (.ref f)) (hk : PySem.W.keepIn X.K (.ref f) = true) (hb : Binds X.K fd ps []) (hx : Passes CX X E) (h : PDA X (e :: es) pa)
    (hdb : (x == ("__debug__" : Str)) = false := by decide) (he : starEach (e :: es) X.env = (false, eval e X.env) :: starEach es X.env := by rfl) (hpl : (backTo pos (starEach es X.env)).any (·.1) = false := by rfl) : PD X (.Call (.Name x p) (e :: es) [] pos) (pCall sp pa) :=
  ⟨PE.weak (pe_call (E := E) F hr hg hm hk hb .nil hx h.run hdb he hpl) fun σ H Q q => callF mf h.mono q, callF_mono mf h.mono⟩
end
end PL

/-! The pure layer, part 8: what is walked, targets, comprehensions. -/
namespace PL
open PySem L2

/-! ### what is walked -/
structure ItD where
  items : List D
  lock : Option Nat
  src : Bool
abbrev PI' := En → (ItD → Prop) → Prop
abbrev MonoI (p : PI') : Prop := ∀ (env : En) {P Q : ItD → Prop}, (∀ r, P r → Q r) → p env P → p env Q
def JOk (K : PySem.W.Frag) (S Z : Hp) (ds : List D) (J : It) : Prop := ∀ (i : Nat) (S2 B2 H2 : Hp), Ex S S2 → Ex S2 B2 → Ex B2 H2 → Ex Z H2 →
  (i < ds.length → J.go i H2) ∧ (∀ x H3, i < ds.length → J.yld i H2 x H3 → ∃ S3 B3 d, Gro S2 B2 H2 S3 B3 H3 ∧ ds[i]? = some d ∧ Rep K S3 x d) ∧ (i = ds.length → J.stop i H2)
structure Lk (K : PySem.W.Frag) (S1 B1 H1 : Hp) (σ : L2.St) (env : En) (it : ItD) (J : It) (A : List Addr) : Prop where
  j : ∀ Z, Ex S1 Z → (∀ p ∈ A, Z p = H1 p) → JOk K S1 Z it.items J
  n : it.lock = none → A = []
  l : ∀ i, it.lock = some i → ∀ c ov F, env[i]? = some c → σ[i]? = some ov → SlotOk K S1 B1 H1 c ov F → ∀ p ∈ A, p ∈ F
  z : it.src = true → it.items.length ≤ sizeLine
def tDI (K : PySem.W.Frag) (p : PI') : TI := fun σ H R => ∃ S B env, SR K S B H σ env ∧ p env fun it => ∀ S' B' H' J A, Gro S B H S' B' H' → Lk K S' B' H' σ env it J A → R J H'
structure PDI (X : Cx) (tg e : Expr) (p : PI') : Prop where
  run : PI X tg e (tDI X.K p)
  mono : MonoI p
theorem PI.weak {X : Cx} {tg e : Expr} {t t' : TI} (h : PI X tg e t) (w : ∀ σ H R, t' σ H R → t σ H R) : PI X tg e t' := ⟨fun pins s σ H R I q => h.run pins s σ H R I (w _ _ _ q)⟩
def iSeq (K : PySem.W.Frag) (tl : TE) : TI := fun σ H R => tl σ H fun x H1 => ∃ a, x = .ref a ∧ (((∃ xs, SqL K H1 a xs) ∧ R (Itl K a) H1) ∨ ((∃ xs, SqT K H1 a xs) ∧ R (Itt K a) H1))
section
variable {X : Cx} {tg e a b c : Expr} {pa pb pc : PX} {p pos : Pos}
open PySem.Spec PyProof.Rows in
theorem pi_seq {tl : TE} (hl : PE X e tl) : PI X tg e (iSeq X.K tl) := by
  refine ⟨fun pins s σ H R I h => ?_⟩
  refine thn (hl.run pins s σ H _ I h) fun v s1 q1 => ?_
  obtain ⟨x, H1, I1, r1, a, e1, q⟩ := q1
  subst e1
  cases r1
  have fresh : ∀ b ∈ [s1.heap.objs.size], FpOk X pins H1 b := fun b hb => by
    cases List.mem_singleton.mp hb
    exact I1.fpOk (Nat.le_refl _) (I1.hok.fresh (Nat.le_refl _))
  rcases q with ⟨⟨xs, hq⟩, q⟩ | ⟨⟨xs, hq⟩, q⟩
  · obtain ⟨its, rv, p, hz⟩ := I1.list hq
    exact wpAny_pyIter_list p.isList ⟨_, _, _, _, H1, rfl, I1.kept (t' := s1.toks) fun b o e => Heap.get?_push_of_some _ e, turn_list a _, ⟨_, Heap.get?_push_size _ rfl, rfl, rfl⟩, fresh, q⟩
  · obtain ⟨its, rv, p, hz⟩ := I1.tuple hq
    exact wpAny_pyIter_tuple (show s1.heap.IsTuple a its.toArray from p) ⟨_, _, _, _, H1, rfl, I1.kept (t' := s1.toks) fun b o e => Heap.get?_push_of_some _ e, turn_tuple a _, ⟨_, Heap.get?_push_size _ rfl, rfl, rfl⟩, fresh, q⟩
end

/-- a node's place in the slot that it was read from -/
theorem bo_in {K : PySem.W.Frag} {S B H : Hp} {σ : L2.St} {env : En} {v : V} {i : Nat} {π : List Nat} {sh : Shape} {ts : List T} {a : Addr} (r : RR K S B H H σ v (.bo i π)) (e : look env i π = some (.node sh ts)) (ev : v = .ref a) {c : Cell} {ov : Option V} {F : List Addr}
    (ec : env[i]? = some c) (eo : σ[i]? = some ov) (s : SlotOk K S B H c ov F) : a ∈ F := by
  obtain ⟨v0, e0, q⟩ := r
  rw [e0] at eo
  cases eo
  have e' : (env[i]?).bind (fun c => c.tr.bind fun t => t.at π) = some (.node sh ts) := e
  rw [ec] at e'
  have fin : ∀ {u : T}, Own K S H v0 u F → u.at π = some (.node sh ts) → a ∈ F := fun o e' => by
    obtain ⟨w, F', a1, a2, a3⟩ := o.path e'
    cases a1.inj q
    subst ev
    cases a2 with
    | node h1 h2 h3 h4 h5 => exact a3 _ (.head _)
  cases c with
  | un => cases e'
  | own pin u =>
    obtain ⟨v', z1, z2, o, z3⟩ := s
    cases z1
    exact fin o e'
  | lk F0 u =>
    obtain ⟨_, v', z1, o, z3⟩ := s
    cases z1
    exact fin o e'
theorem RR.here {K : PySem.W.Frag} {S B H H' : Hp} {σ : L2.St} {v : V} {i : Nat} {π : List Nat} (r : RR K S B H H' σ v (.bo i π)) : RR K S B H' H' σ v (.bo i π) := r
/-- the items of a list, a tuple that is walked -/
def seqI (r : R) (t : T) (k : ItD → Prop) : Prop := match r, t with
  | .va _, .s (.node .lst ds) => k ⟨ds, none, true⟩
  | .va _, .s (.node .tup ds) => k ⟨ds, none, true⟩
  | .va _, .s (.node .ro ds) => k ⟨ds, none, true⟩
  | .va _, .node .lst ts => k ⟨ts.map T.er, none, true⟩
  | .bo i _, .node .lst ts => ts.all T.isS = true ∧ k ⟨ts.map T.er, some i, true⟩
  | _, _ => False
theorem seqI_mono (r : R) (t : T) {P Q : ItD → Prop} (f : ∀ x, P x → Q x) (h : seqI r t P) : seqI r t Q := by
  unfold seqI at h ⊢
  split at h
  · exact f _ h
  · exact f _ h
  · exact f _ h
  · exact f _ h
  · exact ⟨h.1, f _ h.2⟩
  · exact h.elim
def pSeqI (p : PX) : PI' := fun env k => p env fun r => ∃ t, r.tr env = some t ∧ seqI r t k
theorem jok_list {K : PySem.W.Frag} {S Z : Hp} {a : Addr} {vs : List V} {ds : List D} (h : SqL K Z a vs) (r : RepL K S vs ds) : JOk K S Z ds (Itl K a) := fun i S2 B2 H2 e1 e2 e3 e4 => by
  have hq : SqL K H2 a vs := ex_l e4 h
  have l := r.len
  refine ⟨fun hi => ?_, fun x H3 hi y => ?_, fun hi => ⟨vs, hq, by omega⟩⟩
  · exact ⟨vs, vs[i]'(by omega), hq, List.getElem?_eq_getElem (by omega)⟩
  · obtain ⟨rfl, y⟩ := y
    obtain ⟨d, a1, a2⟩ := r.getV (y vs hq)
    exact ⟨S2, B2, d, Gro.refl e2 e3, a1, a2.mono e1⟩
theorem jok_tup {K : PySem.W.Frag} {S Z : Hp} {a : Addr} {vs : List V} {ds : List D} (h : SqT K Z a vs) (r : RepL K S vs ds) : JOk K S Z ds (Itt K a) := fun i S2 B2 H2 e1 e2 e3 e4 => by
  have hq : SqT K H2 a vs := ex_t e4 h
  have l := r.len
  refine ⟨fun hi => ?_, fun x H3 hi y => ?_, fun hi => ⟨vs, hq, by omega⟩⟩
  · exact ⟨vs, vs[i]'(by omega), hq, List.getElem?_eq_getElem (by omega)⟩
  · obtain ⟨rfl, y⟩ := y
    obtain ⟨d, a1, a2⟩ := r.getV (y vs hq)
    exact ⟨S2, B2, d, Gro.refl e2 e3, a1, a2.mono e1⟩
section
variable {X : Cx} {tg e a b c : Expr} {pa pb pc : PX} {p pos : Pos}
theorem di_seq (h : PD X e pa) : PDI X tg e (pSeqI pa) := by
  refine ⟨PI.weak (pi_seq h.run) fun σ H R ⟨S, B, env, sr, q⟩ => ⟨S, B, env, sr, h.mono env (fun ra ⟨t, et, q⟩ S1 B1 v H1 g1 r1 => ?_) q⟩, fun env P Q f q => h.mono env (fun r ⟨t, et, q⟩ => ⟨t, et, seqI_mono _ _ f q⟩) q⟩
  have sr1 := sr.gro g1
  have sh1 := sr1.sh
  obtain ⟨F, o, hF⟩ := r1.get sr1 et
  unfold seqI at q
  split at q
  · cases o with
    | s o =>
      cases o with
      | @node p _ vs _ h1 h2 h3 =>
        refine ⟨p, rfl, .inl ⟨⟨vs, SqL.of (sh1 _ _ h1)⟩, ?_⟩⟩
        exact q S1 B1 H1 _ [] g1 ⟨fun Z e1 _ => jok_list (SqL.of (e1 _ _ h1)) h3, fun _ => rfl, (fun i e => nomatch e), fun _ => by rw [← h3.len]; exact h2⟩
  · cases o with
    | s o =>
      cases o with
      | @node p _ vs _ h1 h2 h3 =>
        refine ⟨p, rfl, .inr ⟨⟨vs, SqT.of (sh1 _ _ h1)⟩, ?_⟩⟩
        exact q S1 B1 H1 _ [] g1 ⟨fun Z e1 _ => jok_tup (SqT.of (e1 _ _ h1)) h3, fun _ => rfl, (fun i e => nomatch e), fun _ => by rw [← h3.len]; exact h2⟩
  · cases o with
    | s o =>
      cases o with
      | @node p _ vs _ h1 h2 h3 =>
        have h1 : SqL X.K S1 p vs := h1
        refine ⟨p, rfl, .inl ⟨⟨vs, ex_l sh1 h1⟩, ?_⟩⟩
        exact q S1 B1 H1 _ [] g1 ⟨fun Z e1 _ => jok_list (ex_l e1 h1) h3, fun _ => rfl, (fun i e => nomatch e), fun _ => by rw [← h3.len]; exact h2⟩
  · have hF := hF ⟨_, rfl⟩
    have g2 : Gro S B H _ _ H1 := g1.frz (G := F) hF
    cases o with
    | @node p ob _ vs ts F' h1 h2 h3 h4 h5 =>
      have h2 : ob = .lst vs := h2
      subst h2
      have rp := h4.frz (S' := joinF S1 H1 (p :: F')) (ex_joinF sh1) fun z hz => joinF_in (.tail _ hz)
      have hp : joinF S1 H1 (p :: F') p = some (.lst vs) := by rw [joinF_in (.head _)]; exact h1
      rw [← ers_map] at q
      exact ⟨p, rfl, .inl ⟨⟨vs, SqL.of h1⟩, q _ _ H1 _ [] g2 ⟨fun Z e1 _ => jok_list (SqL.of (e1 _ _ hp)) rp, fun _ => rfl, (fun i e => nomatch e), fun _ => by rw [← rp.len]; exact h3⟩⟩⟩
  · rename_i i π ts
    obtain ⟨q1, q2⟩ := q
    obtain ⟨ds, rfl⟩ := isS_map q1
    cases o with
    | @node p ob _ vs _ F' h1 h2 h3 h4 h5 =>
      have h2 : ob = .lst vs := h2
      subst h2
      obtain ⟨rp, _⟩ := OwnL.unsh h4
      rw [er_s_map] at q2
      refine ⟨p, rfl, .inl ⟨⟨vs, SqL.of h1⟩, q2 S1 B1 H1 _ [p] g1 ⟨fun Z e1 k => jok_list (SqL.of ?_) rp, (fun e => nomatch e), fun j e c ov F2 ec eo s z hz => ?_, fun _ => by rw [← rp.len]; exact h3⟩⟩⟩
      · rw [k p (.head _)]
        exact h1
      · cases e
        cases List.mem_singleton.mp hz
        exact bo_in r1.here et rfl ec eo s
  · exact q.elim

/-! ranges -/
def rngL (lo : Int) (n : Nat) : List D := (List.range n).map fun i => D.int (lo + ((i : Nat) : Int))
theorem rngL_get (lo : Int) (n i : Nat) (h : i < n) : (rngL lo n)[i]? = some (.int (lo + ((i : Nat) : Int))) := by
  unfold rngL
  rw [List.getElem?_map, List.getElem?_range h]
  rfl
theorem rngL_len (lo : Int) (n : Nat) : (rngL lo n).length = n := by unfold rngL; rw [List.length_map, List.length_range]
theorem jok_rng {K : PySem.W.Frag} {S Z : Hp} {lo : Int} {n : Nat} : JOk K S Z (rngL lo n) (Itr lo n) := fun i S2 B2 H2 e1 e2 e3 e4 => by
  refine ⟨fun hi => ?_, fun x H3 hi y => ?_, fun hi => ?_⟩
  · rw [rngL_len] at hi; exact hi
  · obtain ⟨rfl, rfl⟩ := y
    rw [rngL_len] at hi
    exact ⟨S2, B2, _, Gro.refl e2 e3, rngL_get lo n i hi, .int _⟩
  · rw [rngL_len] at hi; exact Nat.le_of_eq hi.symm
theorem lk_rng {K : PySem.W.Frag} {S B H : Hp} {σ : L2.St} {env : En} {lo : Int} {n : Nat} : Lk K S B H σ env ⟨rngL lo n, none, false⟩ (Itr lo n) [] := ⟨fun Z _ _ => jok_rng, fun _ => rfl, (fun i e => nomatch e), fun e => nomatch e⟩
def pRng1 (p : PX) : PI' := fun env k => p env fun r => ∃ n, r = .va (.s (.int n)) ∧ (-4611686018427387904 ≤ n ∧ n < 4611686018427387904) ∧ k ⟨rngL 0 n.toNat, none, false⟩
def pRng2 (p q : PX) : PI' := fun env k => p env fun r => q env fun r' => ∃ m n, r = .va (.s (.int m)) ∧ r' = .va (.s (.int n)) ∧ (-4611686018427387904 ≤ m ∧ m < 4611686018427387904 ∧ -4611686018427387904 ≤ n ∧ n < 4611686018427387904) ∧ k ⟨rngL m (n - m).toNat, none, false⟩
theorem RR.int {K : PySem.W.Frag} {S' B' H H' : Hp} {σ : L2.St} {v : V} {c : Int} (h : RR K S' B' H H' σ v (.va (.s (.int c)))) : v = .int c := by
  obtain ⟨F, o, _⟩ := h
  cases o with
  | s o => cases o; rfl
theorem di_rng1 (hg : Gl X "range") (hm : X.mg "range" = none) (h : PD X a pa) (hs : starEach [a] X.env = [(false, eval a X.env)] := by rfl) : PDI X tg (.Call (.Name "range" p) [a] [] pos) (pRng1 pa) := by
  refine ⟨PI.weak (pi_range1 hg hm (pa_cons h.run pa_nil hs) hs) fun σ H R ⟨S, B, env, sr, q⟩ => ⟨S, B, env, sr, h.mono env (fun ra ⟨n, e, ⟨b1, b2⟩, q⟩ S1 B1 v H1 g1 r1 => ?_) q⟩, fun env P Q f q => h.mono env (fun r ⟨n, e, b, q⟩ => ⟨n, e, b, f _ q⟩) q⟩
  subst e
  rw [r1.int]
  exact ⟨n, rfl, by omega, by omega, q S1 B1 H1 _ [] g1 lk_rng⟩
theorem di_rng2 (hg : Gl X "range") (hm : X.mg "range" = none) (h : PD X a pa) (h' : PD X b pb) (hs : starEach [a, b] X.env = [(false, eval a X.env), (false, eval b X.env)] := by rfl) (hs2 : starEach [b] X.env = [(false, eval b X.env)] := by rfl) : PDI X tg (.Call (.Name "range" p) [a, b] [] pos) (pRng2 pa pb) := by
  refine ⟨PI.weak (pi_range2 hg hm (pa_cons h.run (pa_cons h'.run pa_nil hs2) (by rw [hs, hs2])) hs hs2) fun σ H R ⟨S, B, env, sr, q⟩ => ⟨S, B, env, sr, h.mono env (fun ra q S1 B1 v H1 g1 r1 => ⟨S1, B1, env, sr.gro g1, h'.mono env (fun rb ⟨m, n, e, e', ⟨b1, b2, b3, b4⟩, q2⟩ S2 B2 v2 H2 g2 r2 => ?_) q⟩) q⟩, fun env P Q f q => h.mono env (fun r q => h'.mono env (fun r' ⟨m, n, e, e', b, q⟩ => ⟨m, n, e, e', b, f _ q⟩) q) q⟩
  subst e e'
  rw [r1.int, r2.int]
  exact ⟨m, n, rfl, ⟨by omega, by omega, by omega, by omega⟩, q2 S2 B2 H2 _ [] (g1.trans g2) lk_rng⟩
end
end PL

/-! The pure layer, part 9: targets, comprehensions. -/
namespace PL
open PySem L2

/-! ### targets -/
inductive Tgt where
  | nm (i : Nat) | tup (ts : List Tgt)
def setN (i : Nat) (d : D) (env : En) : Option En := match env[i]? with
  | some .un => some (env.set i (.own none (.s d)))
  | some (.own none _) => some (env.set i (.own none (.s d)))
  | _ => none
mutual
def setT : Tgt → D → En → Option En
  | .nm i, d, env => setN i d env
  | .tup ts, .node .tup ds, env => setTs ts ds env
  | .tup ts, .node .lst ds, env => setTs ts ds env
  | .tup _, _, _ => none
def setTs : List Tgt → List D → En → Option En
  | [], [], env => some env
  | t :: ts, d :: ds, env => match setT t d env with
    | some env1 => setTs ts ds env1
    | none => none
  | _, _, _ => none
end
mutual
def Tgt.ixs : Tgt → List Nat
  | .nm i => [i]
  | .tup ts => ixss ts
def ixss : List Tgt → List Nat
  | [] => []
  | t :: ts => t.ixs ++ ixss ts
end
section
variable {K : PySem.W.Frag} {S B H : Hp} {σ : L2.St} {env env' : En} {F G : List Addr} {i : Nat}
theorem Keeps.refl (p : Addr) : Keeps S B H S B H p := ⟨rfl, id, fun a b => ⟨a, b⟩⟩
/-- a slot takes a new tree, its old one is dropped -/
theorem SR.put (sr : SR K S B H σ env) {c c' : Cell} {ov' : Option V} {F' : List Addr} (e : env[i]? = some c) (h : SlotOk K S B H c' ov' F') (hf : ∀ ov F, SlotOk K S B H c ov F → ∀ G, SlotsOk K S B H env σ G → ∀ p ∈ F', p ∈ G → p ∈ F) : SR K S B H (σ.set i ov') (env.set i c') := by
  obtain ⟨G, sl⟩ := sr.sl
  obtain ⟨ov, F, s1, s2, s3, s4⟩ := sl.focus e
  obtain ⟨G', a, b⟩ := s4 (.refl _) (fun p _ _ => Keeps.refl p) h (hf ov F s2 G sl)
  exact ⟨sr.sb, sr.bh, G', a⟩
theorem setN_ok {d : D} {v : V} (sr : SR K S B H σ env) (r : Rep K S v d) (e : setN i d env = some env') : SR K S B H (σ.set i (some v)) env' := by
  have key : ∀ c, env[i]? = some c → SR K S B H (σ.set i (some v)) (env.set i (.own none (.s d))) := fun c ec =>
    sr.put ec (F' := []) ⟨v, rfl, (fun _ z => nomatch z), Own.s r, (fun _ z => nomatch z)⟩ fun _ _ _ _ _ _ z => nomatch z
  unfold setN at e
  split at e
  · cases e; exact key _ (by assumption)
  · cases e; exact key _ (by assumption)
  · cases e
end
def tDG (K : PySem.W.Frag) (tgt : Tgt) : TG := fun v σ H Q => ∃ S B env d env', SR K S B H σ env ∧ Rep K S v d ∧ setT tgt d env = some env' ∧ ∀ σ', SR K S B H σ' env' → (∀ j, j ∉ tgt.ixs → σ'[j]? = σ[j]?) → σ'.length = σ.length → Q σ' H
def tDGs (K : PySem.W.Frag) (ts : List Tgt) : TGs := fun vs σ H Q => ∃ S B env ds env', SR K S B H σ env ∧ RepL K S vs ds ∧ setTs ts ds env = some env' ∧ ∀ σ', SR K S B H σ' env' → (∀ j, j ∉ ixss ts → σ'[j]? = σ[j]?) → σ'.length = σ.length → Q σ' H
structure PDG (X : Cx) (tg : Expr) (t : Tgt) : Prop where
  run : PG X tg (tDG X.K t)
structure PDGs (X : Cx) (tg : List Expr) (t : List Tgt) : Prop where
  run : PGs X tg (tDGs X.K t)
  len : tg.length = t.length
theorem PG.weak {X : Cx} {e : Expr} {t t' : TG} (h : PG X e t) (w : ∀ v σ H Q, t' v σ H Q → t v σ H Q) : PG X e t' := ⟨fun pins s σ H v u Q I r q => h.run pins s σ H v u Q I r (w _ _ _ _ q)⟩
theorem PGs.weak {X : Cx} {e : List Expr} {t t' : TGs} (h : PGs X e t) (w : ∀ v σ H Q, t' v σ H Q → t v σ H Q) : PGs X e t' := ⟨fun pins s σ H v u Q I r q => h.run pins s σ H v u Q I r (w _ _ _ _ q)⟩
section
variable {X : Cx} {e : Expr} {es : List Expr} {pos : Pos} {t : Tgt} {ts : List Tgt}
theorem dg_name {i : Nat} {x : Str} (hN : X.N.Nodup) (hi : X.N[i]? = some x) (hx : Loc X.env.scope x) (hf : X.fn x = true ∨ X.env.scope.names.lookup x = some .local := by first | exact .inl rfl | exact .inr rfl | assumption) : PDG X (.Name x pos) (.nm i) :=
  ⟨PG.weak (pg_name hN hi hx hf) fun v σ H Q ⟨S, B, env, d, env', sr, r, e, q⟩ => q _ (setN_ok sr r e) (fun j hj => List.getElem?_set_ne fun z => hj (by rw [← z]; exact .head _)) (List.length_set ..)⟩
theorem dgs_nil : PDGs X [] [] := by
  refine ⟨PGs.weak pgs_nil fun v σ H Q ⟨S, B, env, ds, env', sr, r, e, q⟩ => ?_, rfl⟩
  cases ds with
  | nil =>
    cases r
    cases e
    exact ⟨rfl, q σ sr (fun _ _ => rfl) rfl⟩
  | cons d ds => cases e
theorem dgs_cons (h : PDG X e t) (hs : PDGs X es ts) (hh : (assignEach (e :: es) X.env).map (·.2) = assign e X.env :: (assignEach es X.env).map (·.2) := by rfl) : PDGs X (e :: es) (t :: ts) := by
  refine ⟨PGs.weak (pgs_cons h.run hs.run hh) fun vs σ H Q ⟨S, B, env, ds, env', sr, r, e, q⟩ => ?_, by rw [List.length_cons, List.length_cons, hs.len]⟩
  cases ds with
  | nil => cases e
  | cons d ds =>
    cases r with
    | cons r1 r2 =>
      have e' : (match setT t d env with
        | some env1 => setTs ts ds env1
        | none => none) = some env' := e
      cases z : setT t d env with
      | none => rw [z] at e'; cases e'
      | some env1 =>
        rw [z] at e'
        refine ⟨_, _, rfl, S, B, env, d, env1, sr, r1, z, fun σ1 sr1 k1 l1 => ?_⟩
        refine ⟨S, B, env1, ds, env', sr1, r2, e', fun σ2 sr2 k2 l2 => q σ2 sr2 (fun j hj => ?_) (l2.trans l1)⟩
        have hj' : j ∉ t.ixs ∧ j ∉ ixss ts := by
          have : j ∉ t.ixs ++ ixss ts := hj
          simpa using this
        rw [k2 j hj'.2, k1 j hj'.1]
theorem setTs_len : ∀ {ts : List Tgt} {ds : List D} {env env' : En}, setTs ts ds env = some env' → ds.length = ts.length
  | [], [], _, _, _ => rfl
  | [], _ :: _, _, _, e => nomatch e
  | _ :: _, [], _, _, e => nomatch e
  | t :: ts, d :: ds, env, env', e => by
    have e' : (match setT t d env with
      | some env1 => setTs ts ds env1
      | none => none) = some env' := e
    cases z : setT t d env with
    | none => rw [z] at e'; cases e'
    | some env1 =>
      rw [z] at e'
      rw [List.length_cons, List.length_cons, setTs_len e']
theorem PG.or {tg : Expr} {t t' : TG} (h : PG X tg t) (h' : PG X tg t') : PG X tg (fun v σ H Q => t v σ H Q ∨ t' v σ H Q) := ⟨fun pins s σ H v u Q I r q => q.elim (h.run pins s σ H v u Q I r) (h'.run pins s σ H v u Q I r)⟩
theorem dg_tup {k : Nat} {n : Nat} (hc : X.calm = true) (h : PDGs X es ts) (hn : (assignEach es X.env).length = ts.length := by rfl) (hst : (assignEach es X.env).findIdx? (·.1) = none := by rfl) : PDG X (.Tuple es k pos) (.tup ts) := by
  refine ⟨PG.weak (PG.or (pg_tup (n := ts.length) hc h.run hn hst) (pg_unl (n := ts.length) hc h.run hn hst)) fun v σ H Q ⟨S, B, env, d, env', sr, r, e, q⟩ => ?_⟩
  cases d with
  | node sh ds =>
    cases sh with
    | tup =>
      cases r with
      | @node p _ vs _ h1 h2 h3 =>
        have e' : setTs ts ds env = some env' := e
        exact .inl ⟨p, vs, rfl, SqT.of (sr.sh _ _ h1), h3.len.trans (setTs_len e'), S, B, env, ds, env', sr, h3, e', q⟩
    | lst =>
      cases r with
      | @node p _ vs _ h1 h2 h3 =>
        have e' : setTs ts ds env = some env' := e
        exact .inr ⟨p, vs, rfl, SqL.of (sr.sh _ _ h1), h3.len.trans (setTs_len e'), S, B, env, ds, env', sr, h3, e', q⟩
    | _ => cases e
  | _ => cases e
end

/-! ### comprehensions -/
def wipeE (env : En) : List Nat → En
  | [] => env
  | v :: vs => (wipeE env vs).set v .un
theorem SR.wipe {K : PySem.W.Frag} {S B H : Hp} {σ : L2.St} {env : En} (sr : SR K S B H σ env) : ∀ vs : List Nat, SR K S B H (L2.wipe σ vs) (wipeE env vs)
  | [] => sr
  | v :: vs => by
    have ih := SR.wipe sr vs
    show SR K S B H ((L2.wipe σ vs).set v none) ((wipeE env vs).set v .un)
    cases e : (wipeE env vs)[v]? with
    | some c => exact ih.put e (F' := []) rfl fun _ _ _ _ _ _ z => nomatch z
    | none =>
      obtain ⟨G, sl⟩ := ih.sl
      have l := sl.len
      have hv := List.getElem?_eq_none_iff.mp e
      rw [List.set_eq_of_length_le hv, List.set_eq_of_length_le (by omega)]
      exact ih
theorem wipe_get (σ : L2.St) : ∀ (vs : List Nat) (j : Nat), (L2.wipe σ vs)[j]? = if j ∈ vs ∧ j < σ.length then some none else σ[j]?
  | [], j => by simp [L2.wipe]
  | v :: vs, j => by
    show ((L2.wipe σ vs).set v none)[j]? = _
    by_cases e : v = j
    · subst e
      by_cases hl : v < σ.length
      · rw [List.getElem?_set_self (by rw [wipe_length]; exact hl)]
        simp [hl]
      · rw [List.getElem?_eq_none (by rw [List.length_set, wipe_length]; omega), List.getElem?_eq_none (by omega)]
        simp [hl]
    · rw [List.getElem?_set_ne e, wipe_get σ vs j]
      simp [Ne.symm e]
theorem wipe_eq {σ σ2 : L2.St} {vs : List Nat} (h : ∀ j, j ∉ vs → σ2[j]? = (L2.wipe σ vs)[j]?) (hl : σ2.length = (L2.wipe σ vs).length) : L2.wipe σ2 vs = L2.wipe σ vs := by
  rw [wipe_length] at hl
  refine List.ext_getElem? fun j => ?_
  rw [wipe_get, wipe_get]
  by_cases hj : j ∈ vs
  · by_cases hk : j < σ.length
    · rw [if_pos ⟨hj, by omega⟩, if_pos ⟨hj, hk⟩]
    · rw [if_neg (fun z => hk (by omega)), if_neg (fun z => hk z.2), List.getElem?_eq_none (by omega), List.getElem?_eq_none (by omega)]
  · rw [if_neg (fun z => hj z.1), if_neg (fun z => hj z.1), h j hj, wipe_get, if_neg (fun z => hj z.1)]
structure PDTs (X : Cx) (ifs : List Expr) (p : PB) : Prop where
  run : PTs X ifs (tDT X.K p)
  mono : MonoB p
theorem PTs.weak {X : Cx} {e : List Expr} {t t' : TT} (h : PTs X e t) (w : ∀ σ H Q, t' σ H Q → t σ H Q) : PTs X e t' := ⟨fun pins s σ H Q I q => h.run pins s σ H Q I (w _ _ _ q)⟩
def pYes : PB := fun _ k => k true
theorem dts_nil {X : Cx} : PDTs X [] pYes := ⟨PTs.weak pts_nil fun σ H Q ⟨S, B, env, sr, q⟩ => q S B H (Gro.refl sr.sb sr.bh), fun env P Q f h => f _ h⟩
theorem dts_one {X : Cx} {c : Expr} {p : PB} (h : PDT X c p) : PDTs X [c] p := ⟨pts_one h.run, h.mono⟩
/-- one turn: what stands at the target, the test, the element -/
def lcTurn (tgt : Tgt) (pt : PB) (pe : PX) (env : En) (d : D) (yes : T → Prop) (no : Prop) : Prop :=
  ∃ env2, setT tgt d env = some env2 ∧ pt env2 fun b => if b = true then pe env2 fun r => ∃ t, r = .va t ∧ yes t else no
def pLc (pi : PI') (tgt : Tgt) (pt : PB) (pe : PX) (vs : List Nat) : PX := fun env k => pi env fun it => ∃ Pv : Nat → List T → Prop, (it.src = true ∨ it.items.length ≤ 16777216) ∧ Pv 0 [] ∧
  (∀ i d acc, it.items[i]? = some d → acc.length ≤ i → Pv i acc → lcTurn tgt pt pe (wipeE env vs) d (fun t => Pv (i + 1) (acc ++ [t])) (Pv (i + 1) acc)) ∧ ∀ acc, acc.length ≤ it.items.length → Pv it.items.length acc → k (.va (.node .lst acc))
theorem pLc_mono {pi : PI'} {tgt : Tgt} {pt : PB} {pe : PX} {vs : List Nat} (h : MonoI pi) : Mono (pLc pi tgt pt pe vs) := fun env P Q f q => h env (fun it ⟨Pv, b, h0, hs, hd⟩ => ⟨Pv, b, h0, hs, fun acc l p => f _ (hd acc l p)⟩) q
/-- the state of a comprehension's block: the new list at L, of the trees acc -/
structure LcSt (K : PySem.W.Frag) (S1 B1 H1 H : Hp) (L : Addr) (acc : List T) (S2 B2 H2 : Hp) : Prop where
  g : Gro S1 B1 H1 S2 B2 H2
  o : ∃ vs F, H2 L = some (.lst vs) ∧ OwnL K S2 H2 vs acc F ∧ L ∉ F ∧ (∀ p ∈ F, H1 p = none ∧ B2 p = none) ∧ B2 L = none ∧ vs.length = acc.length
section
variable {X : Cx}
theorem lc_read {pi : PI'} {tgt : Tgt} {pt : PB} {pe : PX} {vs : List Nat} (mi : MonoI pi) (mt : MonoB pt) (me : Mono pe) (hv : ∀ j ∈ tgt.ixs, j ∈ vs) {σ : L2.St} {H : Hp} {Q : VK} (h : tD X.K (pLc pi tgt pt pe vs) σ H Q) :
    tLc (tDI X.K pi) (tDG X.K tgt) (tDT X.K pt) (tD X.K pe) vs σ H Q := by
  obtain ⟨S, B, env, sr, q⟩ := h
  refine ⟨S, B, env, sr, mi env (fun it ⟨Pv, bound, h0, hs, hd⟩ S1 B1 H1 J A g1 lk => ?_) q⟩
  have sr1 := sr.gro g1
  intro L hL
  have hz : it.items.length ≤ sizeLine := by
    rcases bound with z | z
    · exact lk.z z
    · rw [sizeLine_eq]; exact z
  have jok := lk.j H1 sr1.sh fun _ _ => rfl
  have bL : B1 L = none := ex_none g1.bh hL
  refine ⟨fun i m H2 => m = it.items.length - i ∧ i ≤ it.items.length ∧ ∃ S2 B2 acc, LcSt X.K S1 B1 H1 H L acc S2 B2 H2 ∧ acc.length ≤ i ∧ Pv i acc, ⟨_, rfl, Nat.zero_le _, S1, B1, [], ⟨Gro.new g1.sb g1.bh hL, [], [], upd_same, .nil, (fun z => nomatch z), (fun _ z => nomatch z), bL, rfl⟩, Nat.le_refl _, h0⟩, ?_⟩
  rintro i m H2 ⟨rfl, hi, S2, B2, acc, st, hacc, pv⟩
  obtain ⟨g2, ws, F, oL, oF, nL, fr, bL2, lw⟩ := st
  obtain ⟨j1, j2, j3⟩ := jok i S2 B2 H2 g2.e.s g2.sb g2.bh g2.h
  by_cases hlt : i < it.items.length
  · refine .inr ⟨j1 hlt, fun H3 => i + 1 ≤ it.items.length ∧ ∃ S2 B2 acc, LcSt X.K S1 B1 H1 H L acc S2 B2 H3 ∧ acc.length ≤ i + 1 ∧ Pv (i + 1) acc, fun H3 ⟨a, b⟩ => ⟨_, by omega, rfl, a, b⟩, fun x H3 y => ?_⟩
    obtain ⟨S3, B3, d, g3, ed, rd⟩ := j2 x H3 hlt y
    obtain ⟨env2, se, q⟩ := hs i d acc ed hacc pv
    have g23 := g2.trans g3
    have sr3 := (sr1.gro g23).wipe vs
    refine ⟨S3, B3, wipeE env vs, d, env2, sr3, rd, se, fun σ2 sr4 k2 l2 => ⟨wipe_eq (fun j hj => k2 j fun z => hj (hv j z)) l2, S3, B3, env2, sr4, mt env2 (fun b q S4 B4 H4 g4 => ?_) q⟩⟩
    have gA := g3.trans g4
    have stay : ∀ {p : Addr} {o : HO}, H2 p = some o → H4 p = some o := fun {p o} e => gA.h p o e
    have fr4 : ∀ p ∈ F, H1 p = none ∧ B4 p = none := fun p hp => by
      obtain ⟨o, e, _⟩ := oF.dom p hp
      exact ⟨(fr p hp).1, (gA.keeps e).2.1 (fr p hp).2⟩
    have oF4 : OwnL X.K S4 H4 ws acc F := oF.mono gA.e.s fun p hp => by
      obtain ⟨o, e, _⟩ := oF.dom p hp
      exact (gA.keeps e).1
    have bL4 : B4 L = none := (gA.keeps oL).2.1 bL2
    cases b with
    | false => exact ⟨hlt, S4, B4, acc, ⟨g2.trans gA, ws, F, stay oL, oF4, nL, fr4, bL4, lw⟩, by omega, q⟩
    | true =>
      show tD X.K pe σ2 H4 _
      refine ⟨S4, B4, env2, sr4.gro g4, me env2 (fun r ⟨t, er, q⟩ S5 B5 v H5 g5 r5 => ?_) q⟩
      subst er
      obtain ⟨F5, o5, f5⟩ := r5
      have e5 : H5 L = some (.lst ws) := g5.h _ _ (stay oL)
      have oF5 : OwnL X.K S5 H5 ws acc F := oF4.mono g5.e.s fun p hp => by
        obtain ⟨o, e, _⟩ := oF4.dom p hp
        exact (g5.keeps e).1
      have fr5 : ∀ p ∈ F, H1 p = none ∧ B5 p = none := fun p hp => by
        obtain ⟨o, e, _⟩ := oF4.dom p hp
        exact ⟨(fr4 p hp).1, (g5.keeps e).2.1 (fr4 p hp).2⟩
      have bL5 : B5 L = none := (g5.keeps (stay oL)).2.1 bL4
      have gB := (g2.trans gA).trans g5
      have dj : ∀ p ∈ F, p ∉ F5 := fun p hp hq => by
        obtain ⟨o, e, _⟩ := oF4.dom p hp
        rw [(f5 p hq).1] at e
        cases e
      have nL5 : L ∉ F5 := fun z => by
        have := (f5 L z).1
        rw [stay oL] at this
        cases this
      have one : OwnL X.K S5 H5 [v] [t] F5 := by
        have := OwnL.cons o5 OwnL.nil (fun p _ z => nomatch z)
        rwa [List.append_nil] at this
      have oA := oF5.append one dj
      have nLA : L ∉ F ++ F5 := fun z => (List.mem_append.mp z).elim nL nL5
      have sz : ws.length < sizeLine := by omega
      refine ⟨ws, e5, sz, hlt, S5, B5, acc ++ [t], ⟨⟨fun p o e => ?_, gB.e, gB.n, gB.sb, fun p o e => ?_⟩, ws ++ [v], F ++ F5, upd_same, oA.mono (.refl _) fun p hp => upd_ne fun z => nLA (z ▸ hp), nLA, fun p hp => ?_, bL5, by rw [List.length_append, List.length_append, lw]; rfl⟩, by rw [List.length_append]; show acc.length + 1 ≤ _; omega, q⟩
      · rw [upd_ne (ne_of_none e hL)]
        exact gB.h p o e
      · rw [upd_ne (fun z => by rw [z, bL5] at e; cases e)]
        exact gB.bh p o e
      · rcases List.mem_append.mp hp with hp | hp
        · exact fr5 p hp
        · exact ⟨ex_none (g2.trans gA).h (f5 p hp).1, (f5 p hp).2⟩
  · have e : i = it.items.length := by omega
    subst e
    refine .inl ⟨j3 rfl, ?_⟩
    have nF : L ∉ F := nL
    refine hd acc hacc pv S2 B2 _ H2 (g1.trans g2) ⟨L :: F, .node oL rfl (by omega) oF nL, fun p hp => ?_⟩
    cases hp with
    | head => exact ⟨ex_none g1.h hL, bL2⟩
    | tail _ hp => exact ⟨ex_none g1.h (fr p hp).1, (fr p hp).2⟩
variable {elt tg iter : Expr} {ifs : List Expr} {scope : Scope} {own : List (Str × Nat)} {pos : Pos} {pi : PI'} {tgt : Tgt} {pt : PB} {pe : PX}
theorem d_lc (hc : X.calm = true) (hN : X.N.Nodup) (hi : PDI X tg iter pi) (ok : BlkOk X.N X.env.scope scope own) (hv : ∀ j ∈ tgt.ixs, j ∈ own.map (·.2))
    (hg : ∀ (s : Shared) (H : Hp) (C : Addr) (cl : List (Str × Addr)) (fp : List Addr), PDG (X.blk s H scope (compEnvC scope cl C X.env) fp) tg tgt) (ht : ∀ (s : Shared) (H : Hp) (C : Addr) (cl : List (Str × Addr)) (fp : List Addr), PDTs (X.blk s H scope (compEnvC scope cl C X.env) fp) ifs pt)
    (he : ∀ (s : Shared) (H : Hp) (C : Addr) (cl : List (Str × Addr)) (fp : List Addr), PD (X.blk s H scope (compEnvC scope cl C X.env) fp) elt pe) (hs : ∀ x, foldedSetIterable iter X.env x = pure x := by intro _; rfl) :
    PD X (.ListComp elt [⟨tg, iter, ifs, 0⟩] scope pos) (pLc pi tgt pt pe (own.map (·.2))) :=
  ⟨PE.weak (pe_lc hc hN hi.run ok (fun s H C cl fp => (hg s H C cl fp).run) (fun s H C cl fp => (ht s H C cl fp).run) (fun s H C cl fp => (he s H C cl fp).run) hs) fun σ H Q q =>
    lc_read hi.mono (ht X.s_0 X.H_0 0 [] []).mono (he X.s_0 X.H_0 0 [] []).mono hv q, pLc_mono hi.mono⟩
end
end PL

/-! The pure layer, part 10: statements. -/
namespace PL
open PySem L2

/-! ### expressions that may change what the slots own; the result is its own -/
abbrev PXM := En → (T → En → Prop) → Prop
abbrev MonoM (p : PXM) : Prop := ∀ (env : En) {P Q : T → En → Prop}, (∀ t e, P t e → Q t e) → p env P → p env Q
def tDM (K : PySem.W.Frag) (p : PXM) : TE := fun σ H Q => ∃ S B env, SR K S B H σ env ∧ p env fun t env' => ∀ S' B' v H', Evo S B S' B' → SR K S' B' H' (some v :: σ) (.own none t :: env') → Q v H'
structure PDM (X : Cx) (e : Expr) (p : PXM) : Prop where
  run : PE X e (tDM X.K p)
  mono : MonoM p
section
variable {K : PySem.W.Frag} {S B H S' B' H' S1 B1 H1 : Hp} {σ : L2.St} {env env' : En} {v : V} {t : T} {F : List Addr} {c : Cell}
/-- a tree of its own beside the slots -/
theorem SR.cons {G : List Addr} (sb : Ex S B) (bh : Ex B H) (sl : SlotsOk K S B H env σ G) (o : Own K S H v t F) (nb : ∀ p ∈ F, B p = none) (dj : ∀ p ∈ F, p ∉ G) : SR K S B H (some v :: σ) (.own none t :: env) :=
  ⟨sb, bh, _, .cons ⟨v, rfl, (fun _ z => nomatch z), o, nb⟩ sl dj⟩
theorem SR.uncons {ov : Option V} (h : SR K S B H (ov :: σ) (c :: env)) : SR K S B H σ env := by
  obtain ⟨G, sl⟩ := h.sl
  cases sl with
  | cons h1 h2 h3 => exact ⟨h.sb, h.bh, _, h2⟩
theorem SR.res (sr : SR K S B H σ env) (g : Gro S B H S' B' H') (r : RR K S' B' H H' σ v (.va t)) : SR K S' B' H' (some v :: σ) (.own none t :: env) := by
  obtain ⟨F, o, fr⟩ := r
  obtain ⟨G, sl⟩ := (sr.gro g).sl
  obtain ⟨G0, sl0⟩ := sr.sl
  refine ⟨g.sb, g.bh, F ++ G0, .cons ⟨v, rfl, (fun _ z => nomatch z), o, fun p hp => (fr p hp).2⟩ ?_ fun p hp hq => ?_⟩
  · exact sl0.mono g.e.s fun p hp => by
      obtain ⟨ob, e, _⟩ := sl0.ne p hp
      exact g.keeps e
  · obtain ⟨ob, e, _⟩ := sl0.ne p hq
    rw [(fr p hp).1] at e
    cases e
end
/-- a result that is its own, as it is -/
def pLift (p : PX) : PXM := fun env k => p env fun r => ∃ t, r = .va t ∧ k t env
theorem dm_of {X : Cx} {e : Expr} {p : PX} (h : PD X e p) : PDM X e (pLift p) := by
  refine ⟨PE.weak h.run fun σ H Q ⟨S, B, env, sr, q⟩ => ⟨S, B, env, sr, h.mono env (fun r ⟨t, e, q⟩ S1 B1 v H1 g r1 => ?_) q⟩, fun env P Q f q => h.mono env (fun r ⟨t, e, q⟩ => ⟨t, e, f _ _ q⟩) q⟩
  subst e
  exact q S1 B1 v H1 g.e (sr.res g r1)
/-- a name's tree, taken out of its slot -/
def pMove (i : Nat) : PXM := fun env k => match env[i]? with
  | some (.own none t) => k t (env.set i .un)
  | _ => False
theorem dm_move {X : Cx} {e : Expr} {i : Nat} (h : PE X e (tVar i)) : PDM X e (pMove i) := by
  refine ⟨PE.weak h fun σ H Q ⟨S, B, env, sr, q⟩ => ?_, fun env P Q f q => ?_⟩
  · unfold pMove at q
    split at q
    · rename_i t ec
      obtain ⟨G, sl⟩ := sr.sl
      obtain ⟨ov, F, s1, s2, s3, s4⟩ := sl.focus ec
      obtain ⟨v, e1, _, o, nb⟩ := s2
      subst e1
      obtain ⟨G', a, b⟩ := s4 (c' := .un) (ov' := some v) (F' := []) (.refl _) (fun p _ _ => Keeps.refl p) rfl fun _ z => nomatch z
      have hv : σ.set i (some v) = σ := List.ext_getElem? fun j => by
        by_cases hj : i = j
        · subst hj
          rw [List.getElem?_set_self (List.getElem?_eq_some_iff.mp s1).1, s1]
        · rw [List.getElem?_set_ne hj]
      rw [hv] at a
      refine ⟨v, s1, q S B v H (.refl S B) (SR.cons sr.sb sr.bh a o nb fun p hp hq => ?_)⟩
      rcases b p hq with z | ⟨_, z⟩
      · cases z
      · exact z hp
    · exact q.elim
  · unfold pMove at q ⊢
    split at q
    · exact f _ _ q
    · exact q.elim

/-! ### statements -/
structure PEnds where
  nx : En → Prop
  rt : T → En → Prop
  bk : En → Prop := fun _ => False
  ct : En → Prop := fun _ => False
abbrev PSt := PEnds → En → Prop
structure PLe (a b : PEnds) : Prop where
  nx : ∀ e, a.nx e → b.nx e
  rt : ∀ t e, a.rt t e → b.rt t e
  bk : ∀ e, a.bk e → b.bk e
  ct : ∀ e, a.ct e → b.ct e
theorem PLe.refl (a : PEnds) : PLe a a := ⟨fun _ h => h, fun _ _ h => h, fun _ h => h, fun _ h => h⟩
abbrev MonoS (p : PSt) : Prop := ∀ {a b : PEnds} (env : En), PLe a b → p a env → p b env
structure Bridge (K : PySem.W.Frag) (S B : Hp) (pd : PEnds) (D : Ends) : Prop where
  nx : ∀ S' B' σ' H' env', Evo S B S' B' → SR K S' B' H' σ' env' → pd.nx env' → D.nx σ' H'
  bk : ∀ S' B' σ' H' env', Evo S B S' B' → SR K S' B' H' σ' env' → pd.bk env' → D.bk σ' H'
  ct : ∀ S' B' σ' H' env', Evo S B S' B' → SR K S' B' H' σ' env' → pd.ct env' → D.ct σ' H'
  rt : ∀ S' B' σ' H' env' v t, Evo S B S' B' → SR K S' B' H' (some v :: σ') (.own none t :: env') → pd.rt t env' → D.rt v H'
theorem Bridge.evo {K : PySem.W.Frag} {S B S1 B1 : Hp} {pd : PEnds} {D : Ends} (b : Bridge K S B pd D) (e : Evo S B S1 B1) : Bridge K S1 B1 pd D :=
  ⟨fun S' B' σ' H' env' e1 => b.nx S' B' σ' H' env' (e.trans e1), fun S' B' σ' H' env' e1 => b.bk S' B' σ' H' env' (e.trans e1), fun S' B' σ' H' env' e1 => b.ct S' B' σ' H' env' (e.trans e1), fun S' B' σ' H' env' v t e1 => b.rt S' B' σ' H' env' v t (e.trans e1)⟩
def tSd (K : PySem.W.Frag) (p : PSt) : TS := fun D σ H => ∃ S B env pd, SR K S B H σ env ∧ p pd env ∧ Bridge K S B pd D
structure PDS (X : Cx) (st : Stmt) (p : PSt) : Prop where
  run : PS X st (tSd X.K p)
  mono : MonoS p
structure PDSs (X : Cx) (st : List Stmt) (p : PSt) : Prop where
  run : PSs X st (tSd X.K p)
  mono : MonoS p
theorem PS.weak {X : Cx} {e : Stmt} {t t' : TS} (h : PS X e t) (w : ∀ D σ H, t' D σ H → t D σ H) : PS X e t' := ⟨fun pins s σ H D I q => h.run pins s σ H D I (w _ _ _ q)⟩
theorem PSs.weak {X : Cx} {e : List Stmt} {t t' : TS} (h : PSs X e t) (w : ∀ D σ H, t' D σ H → t D σ H) : PSs X e t' := ⟨fun pins s σ H D I q => h.run pins s σ H D I (w _ _ _ q)⟩
def pNext : PSt := fun pd env => pd.nx env
def pSeq (p q : PSt) : PSt := fun pd env => p { pd with nx := q pd } env
def pBreak : PSt := fun pd env => pd.bk env
def pCont : PSt := fun pd env => pd.ct env
def pNever : PSt := fun _ _ => False
def pDrop (p : PXM) : PSt := fun pd env => p env fun _ env' => pd.nx env'
def pRet (p : PXM) : PSt := fun pd env => p env fun t env' => pd.rt t env'
def pRetN : PSt := fun pd env => pd.rt (.s .non) env
def pIf (c : PB) (p q : PSt) : PSt := fun pd env => c env fun b => if b = true then p pd env else q pd env
def setO (i : Nat) (t : T) (env : En) : Option En := match env[i]? with
  | some .un => some (env.set i (.own none t))
  | some (.own none _) => some (env.set i (.own none t))
  | _ => none
def pAsg (i : Nat) (p : PXM) : PSt := fun pd env => p env fun t env' => ∃ e2, setO i t env' = some e2 ∧ pd.nx e2
def pAsgT (tgt : Tgt) (p : PXM) : PSt := fun pd env => p env fun t env' => ∃ d e2, t = .s d ∧ setT tgt d env' = some e2 ∧ pd.nx e2
/-- a slot's tree frozen -/
def pFrz (i : Nat) (p : PSt) : PSt := fun pd env => match env[i]? with
  | some (.own none t) => p pd (env.set i (.own none (.s t.er)))
  | _ => False
section
variable {X : Cx} {st : Stmt} {rest : List Stmt} {e c : Expr} {pos : Pos} {p q : PSt} {pm : PXM} {pb : PB}
theorem dss_nil : PDSs X [] pNext := ⟨PSs.weak pss_nil fun D σ H ⟨S, B, env, pd, sr, h, br⟩ => br.nx S B σ H env (.refl S B) sr h, fun env le h => le.nx _ h⟩
theorem seq_read {K : PySem.W.Frag} {D : Ends} {σ : L2.St} {H : Hp} (h : tSd K (pSeq p q) D σ H) : tSeq (tSd K p) (tSd K q) D σ H := by
  obtain ⟨S, B, env, pd, sr, h, br⟩ := h
  exact ⟨S, B, env, { pd with nx := q pd }, sr, h, ⟨fun S' B' σ' H' env' e1 sr1 q1 => ⟨S', B', env', pd, sr1, q1, br.evo e1⟩, br.bk, br.ct, br.rt⟩⟩
theorem seq_mono (mp : MonoS p) (mq : MonoS q) : MonoS (pSeq p q) := fun {a b} env le h =>
  mp (a := { a with nx := q a }) (b := { b with nx := q b }) env ⟨fun e h => mq e le h, le.rt, le.bk, le.ct⟩ (show p { a with nx := q a } env from h)
theorem dss_cons (h1 : PDS X st p) (h2 : PDSs X rest q) : PDSs X (st :: rest) (pSeq p q) := ⟨PSs.weak (pss_cons h1.run h2.run) fun _ _ _ h => seq_read h, seq_mono h1.mono h2.mono⟩
theorem dss_one (h1 : PDS X st p) : PDSs X [st] p := ⟨pss_one h1.run, h1.mono⟩
theorem ds_pass : PDS X (.Pass pos) pNext := ⟨PS.weak ps_pass fun D σ H ⟨S, B, env, pd, sr, h, br⟩ => br.nx S B σ H env (.refl S B) sr h, fun env le h => le.nx _ h⟩
theorem ds_break : PDS X (.Break pos) pBreak := ⟨PS.weak ps_break fun D σ H ⟨S, B, env, pd, sr, h, br⟩ => br.bk S B σ H env (.refl S B) sr h, fun env le h => le.bk _ h⟩
theorem ds_cont : PDS X (.Continue pos) pCont := ⟨PS.weak ps_continue fun D σ H ⟨S, B, env, pd, sr, h, br⟩ => br.ct S B σ H env (.refl S B) sr h, fun env le h => le.ct _ h⟩
theorem ds_never : PDS X st pNever := ⟨PS.weak ps_never fun D σ H ⟨S, B, env, pd, sr, h, br⟩ => h.elim, fun env le h => h.elim⟩
theorem ds_expr (h : PDM X e pm) (hs : swapsWith e none pos.line X.env = pure false := by rfl) : PDS X (.Expr e pos) (pDrop pm) :=
  ⟨PS.weak (ps_expr h.run hs) fun D σ H ⟨S, B, env, pd, sr, q, br⟩ => ⟨S, B, env, sr, h.mono env (fun t env' q S' B' v H' ev sr' => br.nx S' B' σ H' env' ev sr'.uncons q) q⟩, fun env le q => h.mono env (fun t e q => le.nx _ q) q⟩
theorem ds_ret (h : PDM X e pm) : PDS X (.Return (some e) pos) (pRet pm) :=
  ⟨PS.weak (ps_ret h.run) fun D σ H ⟨S, B, env, pd, sr, q, br⟩ => ⟨S, B, env, sr, h.mono env (fun t env' q S' B' v H' ev sr' => br.rt S' B' σ H' env' v t ev sr' q) q⟩, fun env le q => h.mono env (fun t e q => le.rt _ _ q) q⟩
theorem ds_retN : PDS X (.Return none pos) pRetN :=
  ⟨PS.weak ps_retN fun D σ H ⟨S, B, env, pd, sr, q, br⟩ => br.rt S B σ H env .non (.s .non) (.refl S B) (let ⟨G, sl⟩ := sr.sl; SR.cons sr.sb sr.bh sl (.s .non) (fun _ z => nomatch z) fun _ z => nomatch z) q, fun env le q => le.rt _ _ q⟩
theorem ds_if {a b : List Stmt} (hc : PDT X c pb) (ha : PDSs X a p) (hb : PDSs X b q) : PDS X (.If c a b pos) (pIf pb p q) := by
  refine ⟨PS.weak (ps_if hc.run ha.run hb.run) fun D σ H ⟨S, B, env, pd, sr, h, br⟩ => ⟨S, B, env, sr, hc.mono env (fun b h S1 B1 H1 g => ?_) h⟩, fun env le h => hc.mono env (fun b h => ?_) h⟩
  · cases b with
    | true => exact ⟨S1, B1, env, pd, sr.gro g, h, br.evo g.e⟩
    | false => exact ⟨S1, B1, env, pd, sr.gro g, h, br.evo g.e⟩
  · cases b with
    | true => exact ha.mono env le h
    | false => exact hb.mono env le h
/-- the tree beside the slots goes into one -/
theorem SR.into {K : PySem.W.Frag} {S B H : Hp} {σ : L2.St} {env e2 : En} {v : V} {t : T} {i : Nat} (h : SR K S B H (some v :: σ) (.own none t :: env)) (e : setO i t env = some e2) : SR K S B H (σ.set i (some v)) e2 := by
  obtain ⟨G0, sl⟩ := h.sl
  cases sl with
  | @cons _ _ _ _ F G s1 s2 s3 =>
    have key : ∀ c, env[i]? = some c → SR K S B H (σ.set i (some v)) (env.set i (.own none t)) := fun c ec => by
      obtain ⟨ov, F1, a1, a2, a3, a4⟩ := s2.focus ec
      obtain ⟨G', b1, b2⟩ := a4 (c' := .own none t) (ov' := some v) (.refl _) (fun p _ _ => Keeps.refl p) s1 fun p hp hq => absurd hq (s3 p hp)
      exact ⟨h.sb, h.bh, G', b1⟩
    unfold setO at e
    split at e
    · cases e; exact key _ (by assumption)
    · cases e; exact key _ (by assumption)
    · cases e
theorem ds_asg {i : Nat} {x : Str} {py : Pos} (hN : X.N.Nodup) (hi : X.N[i]? = some x) (hx : Loc X.env.scope x) (h : PDM X e pm) (hs : swapsWithSole [.Name x py] e pos.line X.env = pure false := by rfl) (hw : swappedStores [.Name x py] e X.env = pure none := by rfl)
    (hf : X.fn x = true ∨ X.env.scope.names.lookup x = some .local := by first | exact .inl rfl | exact .inr rfl | assumption) : PDS X (.Assign [.Name x py] e pos) (pAsg i pm) :=
  ⟨PS.weak (ps_asg h.run (pg_name hN hi hx hf) hs hw) fun D σ H ⟨S, B, env, pd, sr, q, br⟩ => ⟨S, B, env, sr, h.mono env (fun t env' ⟨e2, se, q⟩ S' B' v H' ev sr' => br.nx S' B' _ H' e2 ev (sr'.into se) q) q⟩,
    fun env le q => h.mono env (fun t e ⟨e2, se, q⟩ => ⟨e2, se, le.nx _ q⟩) q⟩
theorem SR.scal {K : PySem.W.Frag} {S B H : Hp} {σ : L2.St} {env : En} {v : V} {d : D} (h : SR K S B H (some v :: σ) (.own none (.s d) :: env)) : Rep K S v d := by
  obtain ⟨G0, sl⟩ := h.sl
  cases sl with
  | cons s1 s2 s3 =>
    obtain ⟨v', e1, _, o, _⟩ := s1
    cases e1
    cases o with
    | s o => exact o
theorem ds_asgT {tg : Expr} {tgt : Tgt} (hg : PDG X tg tgt) (h : PDM X e pm) (hs : swapsWithSole [tg] e pos.line X.env = pure false := by rfl) (hw : swappedStores [tg] e X.env = pure none := by rfl) (h1 : (assignEach [tg] X.env).map (·.2) = [assign tg X.env] := by rfl) : PDS X (.Assign [tg] e pos) (pAsgT tgt pm) := by
  refine ⟨PS.weak (ps_asg h.run hg.run hs hw h1) fun D σ H ⟨S, B, env, pd, sr, q, br⟩ => ⟨S, B, env, sr, h.mono env (fun t env' ⟨d, e2, et, se, q⟩ S' B' v H' ev sr' => ?_) q⟩, fun env le q => h.mono env (fun t e ⟨d, e2, et, se, q⟩ => ⟨d, e2, et, se, le.nx _ q⟩) q⟩
  subst et
  exact ⟨S', B', env', d, e2, sr'.uncons, sr'.scal, se, fun σ' sr2 _ _ => br.nx S' B' σ' H' e2 ev sr2 q⟩
/-- freezing a slot changes nothing -/
theorem SR.frz {K : PySem.W.Frag} {S B H : Hp} {σ : L2.St} {env : En} {t : T} {i : Nat} (sr : SR K S B H σ env) (e : env[i]? = some (.own none t)) : ∃ S' B', Evo S B S' B' ∧ SR K S' B' H σ (env.set i (.own none (.s t.er))) := by
  obtain ⟨G, sl⟩ := sr.sl
  obtain ⟨ov, F, s1, s2, s3, s4⟩ := sl.focus e
  obtain ⟨v, e1, _, o, nb⟩ := s2
  subst e1
  have sh := sr.sh
  have hs : Ex S (joinF S H F) := ex_joinF sh
  refine ⟨joinF S H F, joinF B H F, ⟨hs, ex_joinF sr.bh, fun p a b => ?_⟩, ?_⟩
  · by_cases hp : p ∈ F
    · exact nb p hp
    · rw [joinF_out hp] at a
      exact absurd b a
  · have rp := o.frz hs fun p hp => joinF_in hp
    obtain ⟨G', a, b⟩ := s4 (S' := joinF S H F) (B' := joinF B H F) (H' := H) (c' := .own none (.s t.er)) (ov' := some v) (F' := []) hs (fun p hp hn => ⟨rfl, fun z => by rw [joinF_out hn]; exact z, fun z1 z2 => by rw [joinF_out hn, joinF_out hn]; exact ⟨z1, z2⟩⟩) ⟨v, rfl, (fun _ z => nomatch z), .s rp, fun _ z => nomatch z⟩ fun _ z => nomatch z
    have hv : σ.set i (some v) = σ := List.ext_getElem? fun j => by
      by_cases hj : i = j
      · subst hj
        rw [List.getElem?_set_self (List.getElem?_eq_some_iff.mp s1).1, s1]
      · rw [List.getElem?_set_ne hj]
    rw [hv] at a
    exact ⟨joinF_two sr.sb, joinF_ex sr.bh, G', a⟩
theorem frz_read {K : PySem.W.Frag} {i : Nat} {D : Ends} {σ : L2.St} {H : Hp} (h : tSd K (pFrz i p) D σ H) : tSd K p D σ H := by
  obtain ⟨S, B, env, pd, sr, h, br⟩ := h
  unfold pFrz at h
  split at h
  · rename_i t ec
    obtain ⟨S', B', ev, sr'⟩ := sr.frz ec
    exact ⟨S', B', _, pd, sr', h, br.evo ev⟩
  · exact h.elim
theorem frz_mono {i : Nat} (mp : MonoS p) : MonoS (pFrz i p) := fun env le h => by
  unfold pFrz at h ⊢
  split at h
  · exact mp _ le h
  · exact h.elim
theorem dss_frz (i : Nat) (h : PDSs X rest p) : PDSs X rest (pFrz i p) := ⟨PSs.weak h.run fun _ _ _ h => frz_read h, frz_mono h.mono⟩
theorem ds_frz (i : Nat) (h : PDS X st p) : PDS X st (pFrz i p) := ⟨PS.weak h.run fun _ _ _ h => frz_read h, frz_mono h.mono⟩

/-! name = [..] -/
theorem ds_setLc {i : Nat} {y : Str} {py : Pos} {elt tg iter : Expr} {ifs : List Expr} {scope : Scope} {own : List (Str × Nat)} {cpos spos : Pos} {pi : PI'} {tgt : Tgt} {pt : PB} {pe : PX} (hc : X.calm = true) (hN : X.N.Nodup) (hy : X.N[i]? = some y) (hyl : X.env.scope.names.lookup y = some .local)
    (hsw : swapsWith (.ListComp elt [⟨tg, iter, ifs, 0⟩] scope cpos) (some (.Name y py)) spos.line X.env = pure true) (hi : PDI X tg iter pi) (ok : BlkOk X.N X.env.scope scope own) (hv : ∀ j ∈ tgt.ixs, j ∈ own.map (·.2))
    (hg : ∀ (s : Shared) (H : Hp) (C : Addr) (cl : List (Str × Addr)) (fp : List Addr), PDG (X.blk s H scope (compEnvC scope cl C X.env) fp) tg tgt) (ht : ∀ (s : Shared) (H : Hp) (C : Addr) (cl : List (Str × Addr)) (fp : List Addr), PDTs (X.blk s H scope (compEnvC scope cl C X.env) fp) ifs pt)
    (he : ∀ (s : Shared) (H : Hp) (C : Addr) (cl : List (Str × Addr)) (fp : List Addr), PD (X.blk s H scope (compEnvC scope cl C X.env) fp) elt pe) (hs : ∀ x, foldedSetIterable iter X.env x = pure x := by intro _; rfl) :
    PDS X (.Assign [.Name y py] (.ListComp elt [⟨tg, iter, ifs, 0⟩] scope cpos) spos) (pAsg i (pLift (pLc pi tgt pt pe (own.map (·.2))))) := by
  refine ⟨PS.weak (ps_setLc (g := tDG X.K tgt) (tt := tDT X.K pt) (te := tD X.K pe) hc hN hy hyl hsw hi.run ok (fun s H C cl fp => (hg s H C cl fp).run) (fun s H C cl fp => (ht s H C cl fp).run) (fun s H C cl fp => (he s H C cl fp).run) hs) fun D σ H ⟨S, B, env, pd, sr, q, br⟩ => ?_,
    fun {a b} env le q => ?_⟩
  rotate_left
  · have q' : pLc pi tgt pt pe (own.map (·.2)) env (fun r => ∃ t, r = .va t ∧ ∃ e2, setO i t env = some e2 ∧ a.nx e2) := q
    have r' : pLc pi tgt pt pe (own.map (·.2)) env (fun r => ∃ t, r = .va t ∧ ∃ e2, setO i t env = some e2 ∧ b.nx e2) := pLc_mono hi.mono env (fun r ⟨t, er, e2, se, q⟩ => ⟨t, er, e2, se, le.nx _ q⟩) q'
    exact r'
  refine lc_read hi.mono (ht X.s_0 X.H_0 0 [] []).mono (he X.s_0 X.H_0 0 [] []).mono hv ⟨S, B, env, sr, pLc_mono hi.mono env (fun r ⟨t, er, e2, se, q⟩ S1 B1 v H1 g r1 => ?_) (show pLc pi tgt pt pe (own.map (·.2)) env (fun r => ∃ t, r = .va t ∧ ∃ e2, setO i t env = some e2 ∧ pd.nx e2) from q)⟩
  subst er
  exact br.nx S1 B1 _ H1 e2 g.e ((sr.res g r1).into se) q
end
end PL

/-! The pure layer, part 11: loops. -/
namespace PL
open PySem L2

theorem set_self {α : Type} {l : List α} {i : Nat} {x : α} (h : l[i]? = some x) : l.set i x = l := List.ext_getElem? fun j => by
  by_cases hj : i = j
  · subst hj
    rw [List.getElem?_set_self (List.getElem?_eq_some_iff.mp h).1, h]
  · rw [List.getElem?_set_ne hj]
section
variable {K : PySem.W.Frag} {S B H S' B' H' S1 B1 H1 : Hp} {σ : L2.St} {env env' : En} {v : V} {t : T} {F : List Addr} {c : Cell} {i : Nat}
/-- a slot is locked: what it owns is kept, though not shared -/
theorem SR.lock (sr : SR K S B H σ env) (e : env[i]? = some (.own none t)) : ∃ F, SR K S (joinF B H F) H σ (env.set i (.lk F t)) ∧ (∀ p ∈ F, B p = none) ∧ (∀ A : List Addr, (∀ c ov F, env[i]? = some c → σ[i]? = some ov → SlotOk K S B H c ov F → ∀ p ∈ A, p ∈ F) → ∀ p ∈ A, p ∈ F) := by
  obtain ⟨G, sl⟩ := sr.sl
  obtain ⟨ov, F, s1, s2, s3, s4⟩ := sl.focus e
  have s2' := s2
  obtain ⟨v, rfl, _, o, nb⟩ := s2
  obtain ⟨G', a, b⟩ := s4 (S' := S) (B' := joinF B H F) (H' := H) (c' := .lk F t) (ov' := some v) (F' := F) (.refl _) (fun p hp hn => ⟨rfl, fun z => by rw [joinF_out hn]; exact z, fun z1 z2 => by rw [joinF_out hn]; exact ⟨z1, z2⟩⟩)
    ⟨rfl, v, rfl, o, fun p hp => ⟨joinF_in hp, ex_none sr.sb (nb p hp)⟩⟩ fun p hp _ => hp
  rw [set_self s1] at a
  exact ⟨F, ⟨sr.sb.trans (ex_joinF sr.bh), joinF_ex sr.bh, G', a⟩, nb, fun A k => k _ _ _ e s1 s2'⟩
theorem SR.unlock (sr : SR K S' B' H' σ env) (ev : Evo S (joinF B H F) S' B') (bh : Ex B H) (nb : ∀ p ∈ F, B p = none) (e : env[i]? = some (.lk F t)) : ∃ B2, Evo S B S' B2 ∧ SR K S' B2 H' σ (env.set i (.own none t)) := by
  obtain ⟨G, sl⟩ := sr.sl
  obtain ⟨ov, F', s1, s2, s3, s4⟩ := sl.focus e
  obtain ⟨rfl, v, rfl, o, kb⟩ := s2
  let B2 : Hp := fun p => if p ∈ F' then none else B' p
  have b2i : ∀ {p}, p ∈ F' → B2 p = none := fun h => if_pos h
  have b2o : ∀ {p}, p ∉ F' → B2 p = B' p := fun h => if_neg h
  have le : Ex B2 B' := fun p o q => by
    by_cases h : p ∈ F'
    · rw [b2i h] at q; cases q
    · rwa [b2o h] at q
  obtain ⟨G', a, b⟩ := s4 (S' := S') (B' := B2) (H' := H') (c' := .own none t) (ov' := some v) (F' := F') (.refl _) (fun p hp hn => ⟨rfl, fun z => by rw [b2o hn]; exact z, fun z1 z2 => by rw [b2o hn]; exact ⟨z1, z2⟩⟩)
    ⟨v, rfl, (fun _ z => nomatch z), o, fun p hp => b2i hp⟩ fun p hp _ => hp
  rw [set_self s1] at a
  refine ⟨B2, ⟨ev.s, fun p o q => ?_, fun p a b => ex_none (ex_joinF bh) (ev.n p a b)⟩, fun p o q => ?_, le.trans sr.bh, G', a⟩
  · have hn : p ∉ F' := fun z => by rw [nb p z] at q; cases q
    rw [b2o hn]
    exact ev.b p o (ex_joinF bh p o q)
  · have hn : p ∉ F' := fun z => by rw [(kb p z).2] at q; cases q
    rw [b2o hn]
    exact sr.sb p o q
end

/-! ### for -/
def unlk (i : Nat) (F : List Addr) (k : En → Prop) (e : En) : Prop := ∃ t, e[i]? = some (.lk F t) ∧ k (e.set i (.own none t))
def loopD (items : List D) (tgt : Tgt) (body : PSt) (aft : En → Prop) (rt : T → En → Prop) (env : En) : Prop := ∃ P : Nat → En → Prop, P 0 env ∧
  (∀ k d env', items[k]? = some d → P k env' → ∃ e2, setT tgt d env' = some e2 ∧ body { nx := P (k + 1), ct := P (k + 1), bk := aft, rt := rt } e2) ∧ ∀ env', P items.length env' → aft env'
def forD (it : ItD) (tgt : Tgt) (body : PSt) (pd : PEnds) (env : En) : Prop := match it.lock with
  | none => loopD it.items tgt body pd.nx pd.rt env
  | some i => match env[i]? with
    | some (.lk _ _) => loopD it.items tgt body pd.nx pd.rt env
    | some (.own none t) => ∀ F, loopD it.items tgt body (unlk i F pd.nx) (fun t => unlk i F (pd.rt t)) (env.set i (.lk F t))
    | _ => False
def pFor (pi : PI') (tgt : Tgt) (body : PSt) : PSt := fun pd env => pi env fun it => forD it tgt body pd env
theorem unlk_mono {i : Nat} {F : List Addr} {k k' : En → Prop} (f : ∀ e, k e → k' e) {e : En} (h : unlk i F k e) : unlk i F k' e := let ⟨t, a, b⟩ := h; ⟨t, a, f _ b⟩
theorem loopD_mono {items : List D} {tgt : Tgt} {body : PSt} (mb : MonoS body) {aft aft' : En → Prop} {rt rt' : T → En → Prop} (fa : ∀ e, aft e → aft' e) (fr : ∀ t e, rt t e → rt' t e) {env : En} (h : loopD items tgt body aft rt env) : loopD items tgt body aft' rt' env := by
  obtain ⟨P, h0, hs, hd⟩ := h
  exact ⟨P, h0, fun k d env' e p => let ⟨e2, a, b⟩ := hs k d env' e p; ⟨e2, a, mb (a := { nx := P (k + 1), ct := P (k + 1), bk := aft, rt := rt }) _ ⟨fun _ h => h, fr, fa, fun _ h => h⟩ b⟩, fun env' p => fa _ (hd env' p)⟩
theorem forD_mono {it : ItD} {tgt : Tgt} {body : PSt} (mb : MonoS body) {a b : PEnds} (le : PLe a b) {env : En} (h : forD it tgt body a env) : forD it tgt body b env := by
  unfold forD at h ⊢
  split at h
  · exact loopD_mono mb le.nx le.rt h
  · split at h
    · exact loopD_mono mb le.nx le.rt h
    · exact fun F => loopD_mono mb (fun _ => unlk_mono le.nx) (fun t _ => unlk_mono (le.rt t)) (h F)
    · exact h.elim
section
variable {K : PySem.W.Frag} {S B H S1 B1 H1 : Hp} {σ : L2.St} {env : En}
theorem for_core {items : List D} {J : It} {tgt : Tgt} {body : PSt} {aft : En → Prop} {rt : T → En → Prop} {D : Ends} (jok : JOk K S1 B1 items J) (sr : SR K S1 B1 H1 σ env) (hl : loopD items tgt body aft rt env) (br : Bridge K S1 B1 { nx := aft, rt := rt } D) :
    ∃ W : Nat → Nat → L2.St → Hp → Prop, (∃ m, W 0 m σ H1) ∧ ∀ i m σ H, W i m σ H → (J.stop i H ∧ D.nx σ H) ∨ (J.go i H ∧ ∃ N : L2.St → Hp → Prop, (∀ σ' H', N σ' H' → ∃ m', m' < m ∧ W (i + 1) m' σ' H') ∧
      ∀ x H', J.yld i H x H' → tDG K tgt x σ H' fun σ2 H2 => tSd K body { D with nx := N, ct := N, bk := D.nx } σ2 H2) := by
  obtain ⟨P, h0, hs, hd⟩ := hl
  refine ⟨fun i m σ' H' => m = items.length - i ∧ i ≤ items.length ∧ ∃ S' B' env', Evo S1 B1 S' B' ∧ SR K S' B' H' σ' env' ∧ P i env', ⟨_, rfl, Nat.zero_le _, S1, B1, env, .refl _ _, sr, h0⟩, ?_⟩
  rintro i m σ' H' ⟨rfl, hi, S', B', env', ev, sr', p⟩
  obtain ⟨j1, j2, j3⟩ := jok i S' B' H' ev.s sr'.sb sr'.bh (ev.b.trans sr'.bh)
  by_cases hlt : i < items.length
  · refine .inr ⟨j1 hlt, fun σ2 H2 => i + 1 ≤ items.length ∧ ∃ S' B' env', Evo S1 B1 S' B' ∧ SR K S' B' H2 σ2 env' ∧ P (i + 1) env', fun σ2 H2 ⟨a, b⟩ => ⟨_, by omega, rfl, a, b⟩, fun x H3 y => ?_⟩
    obtain ⟨S3, B3, d, g3, ed, rd⟩ := j2 x H3 hlt y
    obtain ⟨e2, se, hb⟩ := hs i d env' ed p
    have ev3 := ev.trans g3.e
    exact ⟨S3, B3, env', d, e2, sr'.gro g3, rd, se, fun σ2 sr2 _ _ => ⟨S3, B3, e2, _, sr2, hb, ⟨fun S4 B4 σ4 H4 env4 ev4 sr4 q => ⟨hlt, S4, B4, env4, ev3.trans ev4, sr4, q⟩,
      fun S4 B4 σ4 H4 env4 ev4 sr4 q => br.nx S4 B4 σ4 H4 env4 (ev3.trans ev4) sr4 q, fun S4 B4 σ4 H4 env4 ev4 sr4 q => ⟨hlt, S4, B4, env4, ev3.trans ev4, sr4, q⟩, fun S4 B4 σ4 H4 env4 v t ev4 sr4 q => br.rt S4 B4 σ4 H4 env4 v t (ev3.trans ev4) sr4 q⟩⟩⟩
  · have e : i = items.length := by omega
    subst e
    exact .inl ⟨j3 rfl, br.nx S' B' σ' H' env' ev sr' (hd env' p)⟩
theorem for_read {pi : PI'} {tgt : Tgt} {body : PSt} {D : Ends} {σ : L2.St} {H : Hp} (mi : MonoI pi) (h : tSd K (pFor pi tgt body) D σ H) : tFor (tDI K pi) (tDG K tgt) (tSd K body) D σ H := by
  obtain ⟨S, B, env, pd, sr, h, br⟩ := h
  refine ⟨S, B, env, sr, mi env (fun it h S1 B1 H1 J A g1 lk => ?_) h⟩
  have sr1 := sr.gro g1
  have br1 := br.evo g1.e
  have br2 : Bridge K S1 B1 { nx := pd.nx, rt := pd.rt } D := ⟨br1.nx, fun _ _ _ _ _ _ _ z => False.elim z, fun _ _ _ _ _ _ _ z => False.elim z, br1.rt⟩
  unfold forD at h
  split at h
  · rename_i el
    have hA := lk.n el
    subst hA
    exact for_core (lk.j B1 g1.sb fun _ z => nomatch z) sr1 h br2
  · rename_i i el
    split at h
    · rename_i F0 t ec
      obtain ⟨G, sl⟩ := sr1.sl
      obtain ⟨ov, F, s1, s2, s3, s4⟩ := sl.focus ec
      have hA := lk.l i el _ _ _ ec s1 s2
      obtain ⟨rfl, v, rfl, o, kb⟩ := s2
      exact for_core (lk.j B1 g1.sb fun p hp => (kb p (hA p hp)).1) sr1 h br2
    · rename_i t ec
      obtain ⟨F, srl, nb, hA⟩ := sr1.lock ec
      have hA' := hA A (lk.l i el)
      refine for_core (lk.j _ srl.sb fun p hp => joinF_in (hA' p hp)) srl (h F) ⟨fun S' B' σ' H' env' ev sr' ⟨t', e', q⟩ => ?_, fun _ _ _ _ _ _ _ z => False.elim z, fun _ _ _ _ _ _ _ z => False.elim z, fun S' B' σ' H' env' v t2 ev sr' ⟨t', e', q⟩ => ?_⟩
      · obtain ⟨B2, ev2, sr2⟩ := sr'.unlock ev g1.bh nb e'
        exact br1.nx S' B2 σ' H' _ ev2 sr2 q
      · obtain ⟨B2, ev2, sr2⟩ := sr'.unlock (i := i + 1) ev g1.bh nb (by simpa using e')
        exact br1.rt S' B2 σ' H' _ v t2 ev2 sr2 q
    · exact h.elim
end
section
variable {X : Cx} {st : Stmt} {body : List Stmt} {e c tg iter : Expr} {pos : Pos} {p q : PSt} {pm : PXM} {pb : PB} {pi : PI'} {tgt : Tgt}
theorem ds_for (hp : PassesOwn (model X.prog X.w) X.A X.env X.xe) (hc : X.calm = true) (hi : PDI X tg iter pi) (hg : PDG X tg tgt) (hb : PDSs X body p) (hs : ∀ x, foldedSetIterable iter X.env x = pure x := by intro _; rfl) : PDS X (.For tg iter body [] pos) (pFor pi tgt p) :=
  ⟨PS.weak (ps_for hp hc hi.run hg.run hb.run hs) fun _ _ _ h => for_read hi.mono h, fun env le h => hi.mono env (fun it h => forD_mono hb.mono le h) h⟩

/-! ### while -/
def pWhile (c : PB) (body : PSt) : PSt := fun pd env => ∃ (P : En → Prop) (μ : En → Nat), P env ∧
  ∀ env', P env' → c env' fun b => if b = true then body { nx := fun e => P e ∧ μ e < μ env', ct := fun e => P e ∧ μ e < μ env', bk := pd.nx, rt := pd.rt } env' else pd.nx env'
theorem ds_while (hp : PassesOwn (model X.prog X.w) X.A X.env X.xe) (hc : PDT X c pb) (hb : PDSs X body p) : PDS X (.While c body [] pos) (pWhile pb p) := by
  refine ⟨PS.weak (ps_while hp hc.run hb.run) fun D σ H ⟨S, B, env, pd, sr, ⟨P, μ, h0, hs⟩, br⟩ => ?_, fun {pa pd'} env le ⟨P, μ, h0, hs⟩ => ⟨P, μ, h0, fun env' p => hc.mono env' (fun b h => ?_) (hs env' p)⟩⟩
  · refine ⟨fun m σ' H' => ∃ S' B' env', Evo S B S' B' ∧ SR X.K S' B' H' σ' env' ∧ P env' ∧ m = μ env', ⟨_, S, B, env, .refl _ _, sr, h0, rfl⟩, ?_⟩
    rintro m σ' H' ⟨S', B', env', ev, sr', p, rfl⟩
    refine ⟨S', B', env', sr', hc.mono env' (fun b h S1 B1 H1 g1 => ?_) (hs env' p)⟩
    have ev1 := ev.trans g1.e
    cases b with
    | true =>
      refine ⟨fun σ2 H2 => ∃ S' B' env2, Evo S B S' B' ∧ SR X.K S' B' H2 σ2 env2 ∧ P env2 ∧ μ env2 < μ env', fun σ2 H2 ⟨S2, B2, env2, a, b, c, l⟩ => ⟨_, l, S2, B2, env2, a, b, c, rfl⟩, S1, B1, env', _, sr'.gro g1, h, ?_⟩
      exact ⟨fun S4 B4 σ4 H4 env4 ev4 sr4 q => ⟨S4, B4, env4, ev1.trans ev4, sr4, q.1, q.2⟩, fun S4 B4 σ4 H4 env4 ev4 sr4 q => br.nx S4 B4 σ4 H4 env4 (ev1.trans ev4) sr4 q, fun S4 B4 σ4 H4 env4 ev4 sr4 q => ⟨S4, B4, env4, ev1.trans ev4, sr4, q.1, q.2⟩,
        fun S4 B4 σ4 H4 env4 v t ev4 sr4 q => br.rt S4 B4 σ4 H4 env4 v t (ev1.trans ev4) sr4 q⟩
    | false => exact br.nx S1 B1 σ' H1 env' ev1 (sr'.gro g1) h
  · cases b with
    | true => exact hb.mono (a := { nx := fun e => P e ∧ μ e < μ env', ct := fun e => P e ∧ μ e < μ env', bk := pa.nx, rt := pa.rt }) env' ⟨fun _ h => h, le.rt, le.nx, fun _ h => h⟩ h
    | false => exact le.nx _ h
end
end PL

/-! The pure layer, part 12: what is owned changes. -/
namespace PL
open PySem L2

def T.putAt : T → List Nat → T → T
  | _, [], c => c
  | .node sh ts, k :: π, c => .node sh (match ts[k]? with
    | some t => ts.set k (t.putAt π c)
    | none => ts)
  | .s d, _ :: _, _ => .s d
section
variable {K : PySem.W.Frag} {S B H S' B' H' : Hp} {σ : L2.St} {env : En} {v : V} {t u u1 : T} {F : List Addr} {i : Nat} {pin : Option V}
theorem Own.putAt : ∀ {π : List Nat} {t t1 : T} {v : V} {F : List Addr}, Own K S H v t F → t.at π = some t1 → ∃ w F1, At H v π w ∧ Own K S H w t1 F1 ∧ (∀ p ∈ F1, p ∈ F) ∧
    ∀ {S' H' : Hp} {t2 : T} {F2 : List Addr}, Ex S S' → (∀ p ∈ F, p ∉ F1 → H' p = H p) → Own K S' H' w t2 F2 → (∀ p ∈ F2, p ∈ F → p ∈ F1) → ∃ F', Own K S' H' v (t.putAt π t2) F' ∧ ∀ p ∈ F', p ∈ F2 ∨ (p ∈ F ∧ p ∉ F1)
  | [], t, t1, v, F, h, e => by
    have e' : t = t1 := by cases t <;> exact Option.some.inj e
    subst e'
    refine ⟨v, F, rfl, h, fun _ hp => hp, fun {S' H' t2 F2} hs k o d => ⟨F2, ?_, fun p hp => .inl hp⟩⟩
    cases t <;> exact o
  | k :: π, t, t1, v, F, h, e => by
    cases h with
    | s h => cases e
    | @node p o sh vs ts G h1 h2 h3 h4 h5 =>
      have e' : (ts[k]?).bind (fun c => c.at π) = some t1 := e
      cases q : ts[k]? with
      | none => rw [q] at e'; cases e'
      | some c =>
        rw [q] at e'
        obtain ⟨u, Fi, a1, a2, a3, a4⟩ := h4.focus q
        obtain ⟨w, F1, b1, b2, b3, b4⟩ := Own.putAt a2 e'
        have hsub : ∀ p ∈ F1, p ∈ G := fun x hx => a3 x (b3 x hx)
        refine ⟨w, F1, ⟨p, o, u, rfl, h1, by rw [h2.kids]; exact a1, b1⟩, b2, fun x hx => .tail _ (hsub x hx), fun {S' H' t2 F2} hs kp ow d => ?_⟩
        obtain ⟨Fc, c1, c2⟩ := b4 hs (fun x hx hn => kp x (.tail _ (a3 x hx)) hn) ow fun x hx hy => d x hx (.tail _ (a3 x hy))
        have nF2 : p ∉ F2 := fun z => h5 (hsub p (d p z (.head _)))
        have sub2 : ∀ x ∈ Fc, x ∈ G → x ∈ Fi := fun x hx hy => by
          rcases c2 x hx with z | z
          · exact b3 x (d x z (.tail _ hy))
          · exact z.1
        obtain ⟨G', d1, d2⟩ := a4 (S' := S') (H' := H') (v' := u) hs (fun x hx hn => kp x (.tail _ hx) fun z => hn (b3 x z)) c1 sub2
        rw [set_self a1] at d1
        refine ⟨p :: G', ?_, fun x hx => ?_⟩
        · show Own K S' H' (.ref p) (.node sh (match ts[k]? with
            | some t => ts.set k (t.putAt π t2)
            | none => ts)) (p :: G')
          rw [q]
          refine .node ((kp p (.head _) fun z => h5 (hsub p z)).trans h1) h2 h3 d1 fun z => ?_
          rcases d2 p z with y | y
          · rcases c2 p y with x | x
            · exact nF2 x
            · exact h5 (a3 p x.1)
          · exact h5 y.1
        · cases hx with
          | head => exact .inr ⟨.head _, fun z => h5 (hsub p z)⟩
          | tail _ hx =>
            rcases d2 x hx with y | y
            · rcases c2 x y with z | z
              · exact .inl z
              · exact .inr ⟨.tail _ (a3 x z.1), z.2⟩
            · exact .inr ⟨.tail _ y.1, fun z => y.2 (b3 x z)⟩
/-- what a slot owns is changed at a path; t beside the slots may go into it -/
theorem SR.mut {π : List Nat} (sr : SR K S B H (some v :: σ) (.own none t :: env)) (e : env[i]? = some (.own pin u)) (ea : u.at π = some u1) : ∃ v0 w F1 Ft, σ[i]? = some (some v0) ∧ At H v0 π w ∧ Own K S H w u1 F1 ∧ Own K S H v t Ft ∧ (∀ p ∈ Ft, p ∉ F1) ∧ (∀ p ∈ F1, B p = none) ∧ (∀ p ∈ Ft, B p = none) ∧
    ∀ {H' : Hp} {u2 : T} {F2 : List Addr}, (∀ p, p ∉ F1 → H p ≠ none → H' p = H p) → Own K S H' w u2 F2 → (∀ p ∈ F2, p ∈ F1 ∨ p ∈ Ft) → SR K S B H' σ (env.set i (.own pin (u.putAt π u2))) := by
  obtain ⟨G0, sl⟩ := sr.sl
  cases sl with
  | @cons _ _ _ _ Ft G s1 s2 s3 =>
    obtain ⟨v', z1, _, ot, nbt⟩ := s1
    cases z1
    obtain ⟨ov, F, a1, a2, a3, a4⟩ := s2.focus e
    obtain ⟨v0, rfl, hpin, ou, nb⟩ := a2
    obtain ⟨w, F1, b1, b2, b3, b4⟩ := ou.putAt ea
    refine ⟨v0, w, F1, Ft, a1, b1, b2, ot, fun p hp hq => s3 p hp (a3 p (b3 p hq)), fun p hp => nb p (b3 p hp), nbt, fun {H' u2 F2} k o d => ?_⟩
    have ne : ∀ p ∈ F, H p ≠ none := fun p hp => ou.ne hp
    obtain ⟨F', c1, c2⟩ := b4 (S' := S) (.refl _) (fun p hp hn => k p hn (ne p hp)) o fun p hp hq => by
      rcases d p hp with z | z
      · exact z
      · exact absurd (a3 p hq) (s3 p z)
    have nbF' : ∀ p ∈ F', B p = none := fun p hp => by
      rcases c2 p hp with z | z
      · rcases d p z with y | y
        · exact nb p (b3 p y)
        · exact nbt p y
      · exact nb p z.1
    obtain ⟨G', d1, d2⟩ := a4 (S' := S) (B' := B) (H' := H') (c' := .own pin (u.putAt π u2)) (ov' := some v0) (F' := F') (.refl _) (fun p hp hn => by
      obtain ⟨ob, eb, _⟩ := s2.ne p hp
      have hh : H' p = H p := k p (fun z => hn (b3 p z)) (by rw [eb]; exact fun z => nomatch z)
      exact ⟨hh, id, fun x y => ⟨by rw [hh]; exact x, y⟩⟩) ⟨v0, rfl, hpin, c1, nbF'⟩ fun p hp hq => by
        rcases c2 p hp with z | z
        · rcases d p z with y | y
          · exact b3 p y
          · exact absurd hq (s3 p y)
        · exact z.1
    rw [set_self a1] at d1
    refine ⟨sr.sb, fun p o q => ?_, G', d1⟩
    have hn : p ∉ F1 := fun z => by rw [nb p (b3 p z)] at q; cases q
    have := sr.bh p o q
    rw [k p hn (by rw [this]; exact fun z => nomatch z)]
    exact this
/-- the same with nothing beside -/
theorem SR.mut0 {π : List Nat} (sr : SR K S B H σ env) (e : env[i]? = some (.own pin u)) (ea : u.at π = some u1) : ∃ v0 w F1, σ[i]? = some (some v0) ∧ At H v0 π w ∧ Own K S H w u1 F1 ∧ (∀ p ∈ F1, B p = none) ∧
    ∀ {H' : Hp} {u2 : T} {F2 : List Addr}, (∀ p, p ∉ F1 → H p ≠ none → H' p = H p) → Own K S H' w u2 F2 → (∀ p ∈ F2, p ∈ F1) → SR K S B H' σ (env.set i (.own pin (u.putAt π u2))) := by
  obtain ⟨G, sl⟩ := sr.sl
  have sr2 : SR K S B H (some .non :: σ) (.own none (.s .non) :: env) := SR.cons sr.sb sr.bh sl (.s .non) (fun _ z => nomatch z) fun _ z => nomatch z
  obtain ⟨v0, w, F1, Ft, a, b, c, d, _, f, _, g⟩ := sr2.mut e ea
  exact ⟨v0, w, F1, a, b, c, f, fun k o d => g k o fun p hp => .inl (d p hp)⟩
theorem At.uniq {v0 v1 : V} {π : List Nat} {w w' : V} (a : At H v0 π w) (e : σ[i]? = some (some v0)) (e' : σ[i]? = some (some v1)) (a' : At H v1 π w') : w = w' := by
  rw [e] at e'
  cases e'
  exact a.inj a'
end

/-! ### append, extend, pop -/
/-- recv.append(e) -/
def pApp (po pe : PX) : PSt := fun pd env => po env fun ro => ∃ i π pin u ts, ro = .bo i π ∧ env[i]? = some (.own pin u) ∧ u.at π = some (.node .lst ts) ∧ ts.length < 16777216 ∧ pe env fun re => ∃ t, re = .va t ∧ pd.nx (env.set i (.own pin (u.putAt π (.node .lst (ts ++ [t])))))
/-- name.append(e), where e may change what the slots own -/
def pAppM (i : Nat) (pm : PXM) : PSt := fun pd env => (∃ pin u, env[i]? = some (.own pin (.node .lst u))) ∧ pm env fun t env' => ∃ pin ts, env'[i]? = some (.own pin (.node .lst ts)) ∧ ts.length < 16777216 ∧ pd.nx (env'.set i (.own pin (.node .lst (ts ++ [t]))))
def sApp (X : Cx) (to : TE) (t : TA) : TS := tDrop (tBM X.K "list" rAppend to t)
section
variable {X : Cx} {o e : Expr} {apos cpos pos : Pos} {po pe : PX} {pm : PXM} {i : Nat}
/-- a list grows -/
theorem app_core {K : PySem.W.Frag} {S B H : Hp} {σ : L2.St} {env : En} {v w : V} {t u : T} {pin : Option V} {π : List Nat} {ts : List T} (sr : SR K S B H (some v :: σ) (.own none t :: env)) (e : env[i]? = some (.own pin u)) (ea : u.at π = some (.node .lst ts)) (hl : ts.length < 16777216)
    (hw : ∃ v0, σ[i]? = some (some v0) ∧ At H v0 π w) : ∃ l xs, w = .ref l ∧ H l = some (.lst xs) ∧ xs.length < sizeLine ∧ SR K S B (upd H l (.lst (xs ++ [v]))) σ (env.set i (.own pin (u.putAt π (.node .lst (ts ++ [t]))))) := by
  obtain ⟨v0, w', F1, Ft, a1, a2, a3, a4, a5, a6, a7, a8⟩ := sr.mut e ea
  obtain ⟨v1, e1, at1⟩ := hw
  cases at1.uniq e1 a1 a2
  cases a3 with
  | @node l ob _ xs _ F h1 h2 h3 h4 h5 =>
    have h2 : ob = .lst xs := h2
    subst h2
    have lx := h4.len
    have hz := sizeLine_eq
    refine ⟨l, xs, rfl, h1, by omega, a8 (F2 := l :: (F ++ Ft)) (fun p hp hq => upd_ne fun z => hp (by rw [z]; exact .head _)) ?_ fun p hp => ?_⟩
    · have nl : l ∉ Ft := fun z => a5 l z (.head _)
      have one : OwnL K S H [v] [t] Ft := by
        have := OwnL.cons a4 OwnL.nil (fun p _ z => nomatch z)
        rwa [List.append_nil] at this
      have oA := h4.append one fun p hp hq => a5 p hq (.tail _ hp)
      have nA : l ∉ F ++ Ft := fun z => (List.mem_append.mp z).elim h5 nl
      refine .node upd_same rfl ?_ (oA.mono (.refl _) fun p hp => upd_ne fun z => nA (z ▸ hp)) nA
      rw [List.length_append]
      show xs.length + 1 ≤ _
      omega
    · cases hp with
      | head => exact .inl (.head _)
      | tail _ hp =>
        rcases List.mem_append.mp hp with hp | hp
        · exact .inl (.tail _ hp)
        · exact .inr hp
theorem list_at {K : PySem.W.Frag} {S B H S' B' H' : Hp} {σ : L2.St} {env : En} {v : V} {u : T} {pin : Option V} {π : List Nat} {ts : List T} (sr : SR K S B H σ env) (r : RR K S' B' H' H σ v (.bo i π)) (ec : env[i]? = some (.own pin u)) (ea : u.at π = some (.node .lst ts)) : ∃ l xs, v = .ref l ∧ H l = some (.lst xs) := by
  obtain ⟨v0, e0, at0⟩ := r
  obtain ⟨v0', w', F1, a1, a2, a3, _, _⟩ := sr.mut0 ec ea
  cases at0.uniq e0 a1 a2
  cases a3 with
  | @node l ob _ xs _ F h1 h2 h3 h4 h5 =>
    have h2 : ob = .lst xs := h2
    subst h2
    exact ⟨l, xs, rfl, h1⟩
theorem app_read {D : Ends} {σ : L2.St} {H : Hp} (ho : PD X o po) (he : PD X e pe) (h : tSd X.K (pApp po pe) D σ H) : tDrop (tBM X.K "list" rAppend (tD X.K po) (tCons (tD X.K pe) tNil)) D σ H := by
  obtain ⟨S, B, env, pd, sr, q, br⟩ := h
  refine ⟨S, B, env, sr, ho.mono env (fun ro ⟨i, π, pin, u, ts, e1, ec, ea, hl, q⟩ S1 B1 v1 H1 g1 r1 => ?_) q⟩
  have sr1 := sr.gro g1
  subst e1
  obtain ⟨l0, xs0, rfl, hl1⟩ := list_at sr1 r1 ec ea
  refine ⟨.inl ⟨rfl, _, SqL.of hl1⟩, S1, B1, env, sr1, he.mono env (fun re ⟨t, e2, q⟩ S2 B2 v2 H2 g2 r2 => ?_) q⟩
  subst e2
  obtain ⟨v0, e0, at0⟩ := r1
  obtain ⟨l, xs, ew, h1, h2, sr3⟩ := app_core (sr1.res g2 r2) ec ea hl ⟨v0, e0, at0.mono g2.h⟩
  cases ew
  exact ⟨_, xs, v2, rfl, rfl, h1, h2, br.nx S2 B2 σ _ _ (g1.trans g2).e sr3 q⟩
theorem app_mono (ho : PD X o po) (he : PD X e pe) : MonoS (pApp po pe) := fun env le q =>
  ho.mono env (fun ro ⟨i, π, pin, u, ts, e1, ec, ea, hl, q⟩ => ⟨i, π, pin, u, ts, e1, ec, ea, hl, he.mono env (fun re ⟨t, e2, q⟩ => ⟨t, e2, le.nx _ q⟩) q⟩) q

/-- o.append(e) -/
theorem ds_app (ho : PD X o po) (he : PD X e pe) (hbase : attributeBase o "append" X.env (eval o X.env) = eval o X.env := by rfl)
    (hfew : ((backTo cpos (starEach [e] X.env)).all (fun x => !x.1) && (backToKw cpos (keywordEach [] X.env)).all (fun x => x.1.isSome)
      && decide ([e].length + ([] : List Keyword).length + (if ([] : List Keyword).isEmpty then 0 else 1) < 30)) = true := by rfl)
    (hline : (apos.endLine == cpos.line) = true := by rfl) (hs : starEach [e] X.env = (false, eval e X.env) :: starEach [] X.env := by rfl) (hplain : (backTo cpos (starEach [] X.env)).any (·.1) = false := by rfl) (hw : swapsWith (.Call (.Attribute o "append" apos) [e] [] cpos) none pos.line X.env = pure false := by rfl) :
    PDS X (.Expr (.Call (.Attribute o "append" apos) [e] [] cpos) pos) (pApp po pe) :=
  ⟨PS.weak (ps_expr (pe_bm PySem.F.plainAttrs_list PySem.F.slot_list_append PySem.F.type_list_append mt_append ho.run (pa_cons he.run pa_nil hs) hbase hfew hline hs hplain) hw) fun D σ H h => app_read ho he h, app_mono ho he⟩
/-- name.append(e), e of any kind -/
theorem ds_appM {x : Str} {xpos : Pos} (hv : PE X (.Name x xpos) (tVar i)) (he : PDM X e pm) (hbase : attributeBase (.Name x xpos) "append" X.env (eval (.Name x xpos) X.env) = eval (.Name x xpos) X.env := by rfl)
    (hfew : ((backTo cpos (starEach [e] X.env)).all (fun x => !x.1) && (backToKw cpos (keywordEach [] X.env)).all (fun x => x.1.isSome)
      && decide ([e].length + ([] : List Keyword).length + (if ([] : List Keyword).isEmpty then 0 else 1) < 30)) = true := by rfl)
    (hline : (apos.endLine == cpos.line) = true := by rfl) (hs : starEach [e] X.env = (false, eval e X.env) :: starEach [] X.env := by rfl) (hplain : (backTo cpos (starEach [] X.env)).any (·.1) = false := by rfl) (hw : swapsWith (.Call (.Attribute (.Name x xpos) "append" apos) [e] [] cpos) none pos.line X.env = pure false := by rfl) :
    PDS X (.Expr (.Call (.Attribute (.Name x xpos) "append" apos) [e] [] cpos) pos) (pAppM i pm) := by
  refine ⟨PS.weak (ps_expr (pe_bm PySem.F.plainAttrs_list PySem.F.slot_list_append PySem.F.type_list_append mt_append hv (pa_cons he.run pa_nil hs) hbase hfew hline hs hplain) hw) fun D σ H ⟨S, B, env, pd, sr, ⟨⟨pin, u, ec⟩, q⟩, br⟩ => ?_, fun env le ⟨a, q⟩ => ⟨a, he.mono env (fun t env' ⟨pin, ts, a, b, q⟩ => ⟨pin, ts, a, b, le.nx _ q⟩) q⟩⟩
  obtain ⟨v0, w, F1, a1, a2, a3, a4, _⟩ := sr.mut0 ec (π := []) rfl
  have a2 : v0 = w := a2
  subst a2
  cases a3 with
  | @node l ob _ xs _ F h1 h2 h3 h4 h5 =>
    have h2 : ob = .lst xs := h2
    subst h2
    refine ⟨_, a1, .inl ⟨rfl, _, SqL.of h1⟩, S, B, env, sr, he.mono env (fun t env' ⟨pin', ts, ec', hl, q⟩ S2 B2 v2 H2 ev2 sr2 => ?_) q⟩
    obtain ⟨l2, xs2, ew, k1, k2, sr3⟩ := app_core sr2 ec' (π := []) rfl hl ⟨_, a1, rfl⟩
    cases ew
    exact ⟨_, xs2, v2, rfl, rfl, k1, k2, br.nx S2 B2 σ _ _ ev2 sr3 q⟩

/-! name.pop(), name.pop(i) -/
def pPop (i : Nat) : PXM := fun env k => ∃ pin ts t, env[i]? = some (.own pin (.node .lst ts)) ∧ ts[ts.length - 1]? = some t ∧ k t (env.set i (.own pin (.node .lst ts.dropLast)))
def pPopAt (i : Nat) (p : PX) : PXM := fun env k => ∃ pin ts, env[i]? = some (.own pin (.node .lst ts)) ∧ p env fun r => ∃ n j t, r = .va (.s (.int n)) ∧ -4611686018427387904 ≤ n ∧ n < 4611686018427387904 ∧ ixN ts.length n = some j ∧ ts[j]? = some t ∧ k t (env.set i (.own pin (.node .lst (ts.eraseIdx j))))
theorem OwnL.erase {K : PySem.W.Frag} {S H : Hp} : ∀ {ts : List T} {vs : List V} {F : List Addr} {j : Nat} {t : T}, OwnL K S H vs ts F → ts[j]? = some t → ∃ v Ft G, vs[j]? = some v ∧ Own K S H v t Ft ∧ OwnL K S H (vs.eraseIdx j) (ts.eraseIdx j) G ∧ (∀ p ∈ Ft, p ∈ F) ∧ (∀ p ∈ G, p ∈ F) ∧ ∀ p ∈ Ft, p ∉ G
  | [], _, _, _, _, _, e => by simp at e
  | t :: ts, _, _, j, x, h, e => by
    cases h with
    | @cons v vs _ _ F G h1 h2 h3 =>
      cases j with
      | zero =>
        simp at e
        subst e
        exact ⟨v, F, G, rfl, h1, h2, fun p hp => List.mem_append_left _ hp, fun p hp => List.mem_append_right _ hp, h3⟩
      | succ j =>
        obtain ⟨w, Ft, G', a, b, c, d, f, g⟩ := OwnL.erase h2 (show ts[j]? = some x by simpa using e)
        refine ⟨w, Ft, F ++ G', by simpa using a, b, .cons h1 c fun p hp hq => h3 p hp (f p hq), fun p hp => List.mem_append_right _ (d p hp), fun p hp => ?_, fun p hp hq => ?_⟩
        · rcases List.mem_append.mp hp with hp | hp
          · exact List.mem_append_left _ hp
          · exact List.mem_append_right _ (f p hp)
        · rcases List.mem_append.mp hq with hq | hq
          · exact h3 p hq (d p hp)
          · exact g p hp hq
/-- an item is taken out of a list -/
theorem pop_core {K : PySem.W.Frag} {S B H : Hp} {σ : L2.St} {env : En} {pin : Option V} {ts : List T} {j : Nat} {t : T} (sr : SR K S B H σ env) (ec : env[i]? = some (.own pin (.node .lst ts))) (et : ts[j]? = some t) :
    ∃ l xs v, σ[i]? = some (some (.ref l)) ∧ H l = some (.lst xs) ∧ xs[j]? = some v ∧ xs.length = ts.length ∧ SR K S B (upd H l (.lst (xs.eraseIdx j))) (some v :: σ) (.own none t :: env.set i (.own pin (.node .lst (ts.eraseIdx j)))) := by
  obtain ⟨G, sl⟩ := sr.sl
  obtain ⟨ov, F, s1, s2, s3, s4⟩ := sl.focus ec
  obtain ⟨v0, rfl, hpin, o, nb⟩ := s2
  cases o with
  | @node l ob _ xs _ F h1 h2 h3 h4 h5 =>
    have h2 : ob = .lst xs := h2
    subst h2
    obtain ⟨v, Ft, G1, a, b, c, d, f, g⟩ := h4.erase et
    have nb' : ∀ p ∈ F, B p = none := fun p hp => nb p (.tail _ hp)
    have bl : B l = none := nb l (.head _)
    have up : ∀ {p}, p ≠ l → upd H l (.lst (xs.eraseIdx j)) p = H p := fun h => upd_ne h
    obtain ⟨G', x1, x2⟩ := s4 (S' := S) (B' := B) (H' := upd H l (.lst (xs.eraseIdx j))) (c' := .own pin (.node .lst (ts.eraseIdx j))) (ov' := some (.ref l)) (F' := l :: G1) (.refl _)
      (fun p hp hn => by
        have e : upd H l (.lst (xs.eraseIdx j)) p = H p := up fun z => hn (by rw [z]; exact .head _)
        exact ⟨e, id, fun y z => ⟨by rw [e]; exact y, z⟩⟩)
      ⟨_, rfl, hpin, .node upd_same rfl (Nat.le_trans (len_erase _ _) h3) (c.mono (.refl _) fun p hp => up fun z => h5 (f l (z ▸ hp))) fun z => h5 (f l z), fun p hp => by
        cases hp with
        | head => exact bl
        | tail _ hp => exact nb' p (f p hp)⟩ (fun p hp hq => by
        cases hp with
        | head => exact .head _
        | tail _ hp => exact .tail _ (f p hp))
    rw [set_self s1] at x1
    refine ⟨l, xs, v, s1, h1, a, h4.len, sr.sb, fun p q e => ?_, Ft ++ G', .cons ⟨v, rfl, (fun _ z => nomatch z), b.mono (.refl _) fun p hp => up fun z => h5 (d l (z ▸ hp)), fun p hp => nb' p (d p hp)⟩ x1 fun p hp hq => ?_⟩
    · rw [up fun z => by rw [z, bl] at e; cases e]
      exact sr.bh p q e
    · rcases x2 p hq with z | z
      · cases z with
        | head => exact h5 (d l hp)
        | tail _ z => exact g p hp z
      · exact z.2 (.tail _ (d p hp))
theorem drop_last {α : Type} (xs : List α) : xs.eraseIdx (xs.length - 1) = xs.dropLast := by
  rw [List.dropLast_eq_take, List.eraseIdx_eq_take_drop_succ]
  by_cases h : xs.length = 0
  · have : xs = [] := List.length_eq_zero_iff.mp h
    subst this
    rfl
  · rw [List.drop_eq_nil_of_le (by omega), List.append_nil]
theorem dm_pop {x : Str} {xpos : Pos} (hv : PE X (.Name x xpos) (tVar i)) (hbase : attributeBase (.Name x xpos) "pop" X.env (eval (.Name x xpos) X.env) = eval (.Name x xpos) X.env := by rfl) (hline : (apos.endLine == cpos.line) = true := by rfl) :
    PDM X (.Call (.Attribute (.Name x xpos) "pop" apos) [] [] cpos) (pPop i) := by
  refine ⟨PE.weak (pe_bm0 PySem.F.plainAttrs_list PySem.F.slot_list_pop PySem.F.type_list_pop mt_pop hv hbase hline) fun σ H Q ⟨S, B, env, sr, pin, ts, t, ec, et, q⟩ => ?_, fun env P Q f ⟨pin, ts, t, a, b, q⟩ => ⟨pin, ts, t, a, b, f _ _ q⟩⟩
  obtain ⟨l, xs, v, e1, h1, e2, e3, sr2⟩ := pop_core sr ec et
  rw [drop_last, ← e3, drop_last] at sr2
  exact ⟨_, e1, .inl ⟨rfl, _, SqL.of h1⟩, l, xs, v, rfl, rfl, h1, by rw [e3]; exact e2, q S B v _ (.refl _ _) sr2⟩
theorem dm_popAt {x : Str} {xpos : Pos} (hv : PE X (.Name x xpos) (tVar i)) (he : PD X e pe) (hbase : attributeBase (.Name x xpos) "pop" X.env (eval (.Name x xpos) X.env) = eval (.Name x xpos) X.env := by rfl)
    (hfew : ((backTo cpos (starEach [e] X.env)).all (fun x => !x.1) && (backToKw cpos (keywordEach [] X.env)).all (fun x => x.1.isSome)
      && decide ([e].length + ([] : List Keyword).length + (if ([] : List Keyword).isEmpty then 0 else 1) < 30)) = true := by rfl)
    (hline : (apos.endLine == cpos.line) = true := by rfl) (hs : starEach [e] X.env = (false, eval e X.env) :: starEach [] X.env := by rfl) (hplain : (backTo cpos (starEach [] X.env)).any (·.1) = false := by rfl) :
    PDM X (.Call (.Attribute (.Name x xpos) "pop" apos) [e] [] cpos) (pPopAt i pe) := by
  refine ⟨PE.weak (pe_bm PySem.F.plainAttrs_list PySem.F.slot_list_pop PySem.F.type_list_pop mt_popAt hv (pa_cons he.run pa_nil hs) hbase hfew hline hs hplain) fun σ H Q ⟨S, B, env, sr, pin, ts, ec, q⟩ => ?_, fun env P Q f ⟨pin, ts, a, q⟩ => ⟨pin, ts, a, he.mono env (fun r ⟨n, j, t, a, b, c, d, g, q⟩ => ⟨n, j, t, a, b, c, d, g, f _ _ q⟩) q⟩⟩
  obtain ⟨v0, w, F1, a1, a2, a3, a4, _⟩ := sr.mut0 ec (π := []) rfl
  have a2 : v0 = w := a2
  subst a2
  cases a3 with
  | @node l ob _ xs _ F h1 h2 h3 h4 h5 =>
    have h2 : ob = .lst xs := h2
    subst h2
    refine ⟨_, a1, .inl ⟨rfl, _, SqL.of h1⟩, S, B, env, sr, he.mono env (fun r ⟨n, j, t, er, b1, b2, hj, et, q⟩ S2 B2 v2 H2 g2 r2 => ?_) q⟩
    subst er
    rw [r2.int]
    obtain ⟨l2, xs2, v, e1, k1, e2, e3, sr2⟩ := pop_core (sr.gro g2) ec et
    rw [a1] at e1
    cases e1
    have hix : ixN xs2.length n = some j := by rw [e3]; exact hj
    exact ⟨_, xs2, n, j, v, rfl, rfl, k1, by omega, by omega, (ixN_seq hix).1, e2, q S2 B2 v _ g2.e sr2⟩
end
end PL

/-! The pure layer, part 13: stores at a subscript, extend. -/
namespace PL
open PySem L2

def putD {κ : Type} [DecidableEq κ] (mk : List κ → Shape) (ks : List κ) (ts : List T) (key : κ) (t : T) : T := match ixK ks key with
  | some j => .node (mk ks) (ts.set j t)
  | none => .node (mk (ks ++ [key])) (ts ++ [t])
def setSub (u : T) (d : D) (t : T) (k : T → Prop) : Prop := match u with
  | .node .lst ts => ∃ n j, d = .int n ∧ ixN ts.length n = some j ∧ k (.node .lst (ts.set j t))
  | .node (.dK ks) ts => ∃ key, d.key = some key ∧ ts.length < 16777216 ∧ k (putD .dK ks ts key t)
  | .node (.dT ks) ts => ∃ key, d.keyT = some key ∧ ts.length < 16777216 ∧ k (putD .dT ks ts key t)
  | _ => False
theorem setSub_mono (u : T) (d : D) (t : T) {P Q : T → Prop} (f : ∀ t, P t → Q t) (h : setSub u d t P) : setSub u d t Q := by
  unfold setSub at h ⊢
  split at h
  · obtain ⟨n, j, a, b, h⟩ := h; exact ⟨n, j, a, b, f _ h⟩
  · obtain ⟨key, a, b, h⟩ := h; exact ⟨key, a, b, f _ h⟩
  · obtain ⟨key, a, b, h⟩ := h; exact ⟨key, a, b, f _ h⟩
  · exact h.elim
def pSetI (pm : PXM) (po pi : PX) : PSt := fun pd env => pm env fun t env' => po env' fun ro => pi env' fun ri => ∃ i π pin u u1 td, ro = .bo i π ∧ env'[i]? = some (.own pin u) ∧ u.at π = some u1 ∧ ri.tr env' = some td ∧ setSub u1 td.er t fun u2 => pd.nx (env'.set i (.own pin (u.putAt π u2)))
theorem ixK_some {κ : Type} [DecidableEq κ] : ∀ {ks : List κ} {k : κ} {j : Nat}, ixK ks k = some j → ks[j]? = some k
  | [], _, _, h => by simp [ixK] at h
  | a :: ks, k, j, h => by
    unfold ixK at h
    rw [List.findIdx?_cons] at h
    by_cases e : a = k
    · simp [e] at h
      subst h
      simp [e]
    · simp only [e, decide_false, Bool.false_eq_true, if_false, Option.map_eq_some_iff] at h
      obtain ⟨j', h1, rfl⟩ := h
      simpa using ixK_some (show ixK ks k = some j' from h1)
theorem ixK_none {κ : Type} [DecidableEq κ] {ks : List κ} {k : κ} (h : ixK ks k = none) : k ∉ ks := fun z => by
  unfold ixK at h
  rw [List.findIdx?_eq_none_iff] at h
  simpa using h k z
theorem zip_repl {κ : Type} [DecidableEq κ] : ∀ {ks : List κ} {vs : List V} {k : κ} {j : Nat} (v : V), ks.Nodup → ks[j]? = some k → ks.length = vs.length → ((ks.zip vs).map fun kv => if kv.1 = k then (kv.1, v) else kv) = ks.zip (vs.set j v)
  | [], _, _, _, _, _, h, _ => by simp at h
  | a :: ks, [], _, _, _, _, _, h => by simp at h
  | a :: ks, x :: vs, k, j, v, nd, h, hl => by
    have nd' := List.nodup_cons.mp nd
    cases j with
    | zero =>
      simp at h
      subst h
      have : ((ks.zip vs).map fun kv => if kv.1 = a then (kv.1, v) else kv) = ks.zip vs := by
        conv => rhs; rw [← List.map_id (ks.zip vs)]
        refine List.map_congr_left fun q hq => ?_
        have hm := (List.of_mem_zip hq).1
        have hne : ¬ q.1 = a := fun e => nd'.1 (by rw [← e]; exact hm)
        rw [if_neg hne]
        rfl
      rw [List.zip_cons_cons, List.map_cons, this]
      simp
    | succ j =>
      have h' : ks[j]? = some k := by simpa using h
      have na : a ≠ k := fun e => nd'.1 (e ▸ List.mem_of_getElem? h')
      rw [List.zip_cons_cons, List.map_cons, zip_repl v nd'.2 h' (by simpa using hl), if_neg na]
      rfl
theorem putK_zip {κ : Type} [DecidableEq κ] {ks : List κ} {vs : List V} {k : κ} {v : V} (nd : ks.Nodup) (hl : ks.length = vs.length) : putK (ks.zip vs) k v = (match ixK ks k with
    | some j => ks.zip (vs.set j v)
    | none => (ks ++ [k]).zip (vs ++ [v])) := by
  unfold putK
  rw [valV_any, valV_some hl]
  cases h : ixK ks k with
  | some j =>
    have hj := ixK_some h
    have hm : memK ks k = true := by
      unfold memK
      rw [List.any_eq_true]
      exact ⟨k, List.mem_of_getElem? hj, by simp⟩
    rw [hm, if_pos rfl]
    exact zip_repl v nd hj hl
  | none =>
    have hm : memK ks k = false := by
      unfold memK
      rw [List.any_eq_false]
      intro x hx
      have := ixK_none h
      simp only [decide_eq_true_eq]
      exact fun e => this (e ▸ hx)
    rw [hm, if_neg Bool.false_ne_true, List.zip_append hl]
    rfl
section
variable {K : PySem.W.Frag} {S B H : Hp} {σ : L2.St} {env : En} {v w : V} {t u u1 : T} {pin : Option V} {π : List Nat} {i : Nat}
def rSetU : V → V → V → Hp → (Hp → Prop) → Prop := fun o i v H Q => rSetL o i v H Q ∨ rSetD o i v H Q
/-- a store at a subscript, by values -/
theorem set_core {d : D} {iv : V} {k : T → Prop} {Q : Hp → Prop} (sr : SR K S B H (some v :: σ) (.own none t :: env)) (e : env[i]? = some (.own pin u)) (ea : u.at π = some u1) (hw : ∃ v0, σ[i]? = some (some v0) ∧ At H v0 π w) (ri : Rep K H iv d) (hs : setSub u1 d t k)
    (q : ∀ H' u2, SR K S B H' σ (env.set i (.own pin (u.putAt π u2))) → k u2 → Q H') : rSetU w iv v H Q := by
  obtain ⟨v0, w', F1, Ft, a1, a2, a3, a4, a5, a6, a7, a8⟩ := sr.mut e ea
  obtain ⟨v1, e1, at1⟩ := hw
  cases at1.uniq e1 a1 a2
  have hz := sizeLine_eq
  -- an item of the node is replaced
  have repl : ∀ {l : Addr} {sh : Shape} {vs : List V} {ts : List T} {F : List Addr} {ob' : HO} {j : Nat}, w = .ref l → F1 = l :: F → OwnL K S H vs ts F → l ∉ F → vs.length ≤ sizeLine → j < ts.length → ShO sh (vs.set j v) ob' → SR K S B (upd H l ob') σ (env.set i (.own pin (u.putAt π (.node sh (ts.set j t))))) := by
    intro l sh vs ts F ob' j ew eF ol nl hl hj hsh
    subst ew eF
    obtain ⟨c, hc⟩ : ∃ c, ts[j]? = some c := ⟨_, List.getElem?_eq_getElem hj⟩
    obtain ⟨x, Fj, b1, b2, b3, b4⟩ := ol.focus hc
    have up : ∀ {p}, p ≠ l → upd H l ob' p = H p := fun h => upd_ne h
    have nlt : l ∉ Ft := fun z => a5 l z (.head _)
    obtain ⟨G, c1, c2⟩ := b4 (S' := S) (H' := upd H l ob') (v' := v) (t' := t) (F' := Ft) (.refl _) (fun p hp _ => up fun z => nl (z ▸ hp)) (a4.mono (.refl _) fun p hp => up fun z => nlt (z ▸ hp)) fun p hp hq => absurd (.tail _ hq) (a5 p hp)
    have nG : l ∉ G := fun z => (c2 l z).elim nlt fun y => nl y.1
    refine a8 (F2 := l :: G) (fun p hp hq => up fun z => hp (by rw [z]; exact .head _)) (.node upd_same hsh (by rw [List.length_set]; exact hl) c1 nG) fun p hp => ?_
    cases hp with
    | head => exact .inl (.head _)
    | tail _ hp =>
      rcases c2 p hp with z | z
      · exact .inr z
      · exact .inl (.tail _ z.1)
  -- an item is put behind
  have app : ∀ {l : Addr} {sh : Shape} {vs : List V} {ts : List T} {F : List Addr} {ob' : HO}, w = .ref l → F1 = l :: F → OwnL K S H vs ts F → l ∉ F → vs.length < sizeLine → ShO sh (vs ++ [v]) ob' → SR K S B (upd H l ob') σ (env.set i (.own pin (u.putAt π (.node sh (ts ++ [t]))))) := by
    intro l sh vs ts F ob' ew eF ol nl hl hsh
    subst ew eF
    have up : ∀ {p}, p ≠ l → upd H l ob' p = H p := fun h => upd_ne h
    have nlt : l ∉ Ft := fun z => a5 l z (.head _)
    have one : OwnL K S H [v] [t] Ft := by
      have := OwnL.cons a4 OwnL.nil (fun p _ z => nomatch z)
      rwa [List.append_nil] at this
    have oA := ol.append one fun p hp hq => a5 p hq (.tail _ hp)
    have nA : l ∉ F ++ Ft := fun z => (List.mem_append.mp z).elim nl nlt
    refine a8 (F2 := l :: (F ++ Ft)) (fun p hp hq => up fun z => hp (by rw [z]; exact .head _)) (.node upd_same hsh (by rw [List.length_append]; show vs.length + 1 ≤ _; omega) (oA.mono (.refl _) fun p hp => up fun z => nA (z ▸ hp)) nA) fun p hp => ?_
    cases hp with
    | head => exact .inl (.head _)
    | tail _ hp =>
      rcases List.mem_append.mp hp with z | z
      · exact .inl (.tail _ z)
      · exact .inr z
  unfold setSub at hs
  split at hs
  · rename_i ts
    obtain ⟨n, j, ed, hj, hk⟩ := hs
    subst ed
    cases ri
    cases a3 with
    | @node l ob _ xs _ F h1 h2 h3 h4 h5 =>
      have h2 : ob = .lst xs := h2
      subst h2
      have lx := h4.len
      rw [← lx] at hj
      have hj2 := (ixN_seq hj).2.1
      exact .inl ⟨l, xs, n, j, rfl, rfl, h1, hj, q _ _ (repl (sh := .lst) rfl rfl h4 h5 h3 (by omega) rfl) hk⟩
  · rename_i ks ts
    obtain ⟨key, ed, hl, hk⟩ := hs
    have hiv := key_rep ri ed
    cases a3 with
    | @node l ob _ xs _ F h1 h2 h3 h4 h5 =>
      obtain ⟨l1, rfl, nd⟩ := h2
      have lx := h4.len
      refine .inr ⟨l, _, rfl, .inl ⟨_, key, h1, hiv, by rw [len_zip l1]; omega, rfl⟩, ?_⟩
      rw [putK_zip nd l1]
      unfold putD at hk
      cases hx : ixK ks key with
      | some j =>
        rw [hx] at hk
        have hj := (List.getElem?_eq_some_iff.mp (ixK_some hx)).1
        exact q _ _ (repl (sh := .dK ks) rfl rfl h4 h5 h3 (by omega) ⟨by rw [List.length_set]; exact l1, rfl, nd⟩) hk
      | none =>
        rw [hx] at hk
        refine q _ _ (app (sh := .dK (ks ++ [key])) rfl rfl h4 h5 (by omega) ⟨by rw [List.length_append, List.length_append, l1]; rfl, rfl, ?_⟩) hk
        exact List.nodup_append.mpr ⟨nd, List.nodup_cons.mpr ⟨(fun z => nomatch z), List.nodup_nil⟩, fun a ha b hb => by
          cases List.mem_singleton.mp hb
          exact fun z => ixK_none hx (z ▸ ha)⟩
  · rename_i ks ts
    obtain ⟨key, ed, hl, hk⟩ := hs
    obtain ⟨b, hiv, hb⟩ := keyT_rep ri ed
    cases a3 with
    | @node l ob _ xs _ F h1 h2 h3 h4 h5 =>
      obtain ⟨l1, rfl, nd⟩ := h2
      have lx := h4.len
      refine .inr ⟨l, _, rfl, .inr ⟨_, key, b, h1, hiv, hb, by rw [len_zip l1]; omega, rfl⟩, ?_⟩
      rw [putK_zip nd l1]
      unfold putD at hk
      cases hx : ixK ks key with
      | some j =>
        rw [hx] at hk
        have hj := (List.getElem?_eq_some_iff.mp (ixK_some hx)).1
        exact q _ _ (repl (sh := .dT ks) rfl rfl h4 h5 h3 (by omega) ⟨by rw [List.length_set]; exact l1, rfl, nd⟩) hk
      | none =>
        rw [hx] at hk
        refine q _ _ (app (sh := .dT (ks ++ [key])) rfl rfl h4 h5 (by omega) ⟨by rw [List.length_append, List.length_append, l1]; rfl, rfl, ?_⟩) hk
        exact List.nodup_append.mpr ⟨nd, List.nodup_cons.mpr ⟨(fun z => nomatch z), List.nodup_nil⟩, fun a ha b hb => by
          cases List.mem_singleton.mp hb
          exact fun z => ixK_none hx (z ▸ ha)⟩
  · exact hs.elim
end
section
variable {X : Cx} {o ix e : Expr} {spos pos : Pos} {po pi pe : PX} {pm : PXM} {k : Nat}
theorem set_all (hu : X.A.units + 1 < cLine) : PSet X rSetU := by
  intro pins s σ H o i v ov iv u Q I r1 r2 r3 h
  rcases h with h | h
  · exact set_list pins s σ H o i v ov iv u Q I r1 r2 r3 h
  · exact set_dict hu pins s σ H o i v ov iv u Q I r1 r2 r3 h
/-- o[ix] = e -/
theorem ds_setI (hr : Room k X.A) (he : PDM X e pm) (ho : PD X o po) (hi : PD X ix pi) (ha : ∀ v, assign (.Subscript o ix spos) X.env v = (do
      let ov ← holding [v] (eval o X.env)
      let iv ← holding [v, ov] (eval ix X.env)
      standAt spos
      holding [v, ov, iv] (setItem ov iv v)
      release [v, ov, iv] []) := by intro _; rfl) (hs : swapsWithSole [.Subscript o ix spos] e pos.line X.env = pure false := by rfl) (hw : swappedStores [.Subscript o ix spos] e X.env = pure none := by rfl) (h1 : (assignEach [.Subscript o ix spos] X.env).map (·.2) = [assign (.Subscript o ix spos) X.env] := by rfl) :
    PDS X (.Assign [.Subscript o ix spos] e pos) (pSetI pm po pi) := by
  refine ⟨PS.weak (ps_asg he.run (pg_sub ho.run hi.run (set_all (hu1 hr)) ha) hs hw h1) fun D σ H ⟨S, B, env, pd, sr, q, br⟩ => ⟨S, B, env, sr, he.mono env (fun t env' q S1 B1 v H1 ev1 sr1 => ?_) q⟩,
    fun env le q => he.mono env (fun t env' q => ho.mono env' (fun ro q => hi.mono env' (fun ri ⟨i, π, pin, u, u1, td, a, b, c, d, q⟩ => ⟨i, π, pin, u, u1, td, a, b, c, d, setSub_mono _ _ _ (fun u2 q => le.nx _ q) q⟩) q) q) q⟩
  refine ⟨S1, B1, env', sr1.uncons, ho.mono env' (fun ro q S2 B2 vo H2 g2 r2 => ?_) q⟩
  refine ⟨S2, B2, env', sr1.uncons.gro g2, hi.mono env' (fun ri ⟨i, π, pin, u, u1, td, e1, ec, ea, et, q3⟩ S3 B3 vi H3 g3 r3 => ?_) q⟩
  subst e1
  obtain ⟨v0, e0, at0⟩ := r2
  have sr3 := (sr1.gro g2).gro g3
  exact set_core sr3 ec ea ⟨v0, e0, at0.mono g3.h⟩ (r3.rep sr3.uncons et) q3 fun H' u2 sr4 q => br.nx S3 B3 σ H' _ ((ev1.trans g2.e).trans g3.e) sr4 q
end
end PL

/-! The pure layer, part 14: a def by its body; a call that changes one argument. -/
namespace PL
open PySem L2

/-- what is promised of a def: pre of the arguments (a: a name of one's own for what they are), post of the result and of what has become of them -/
structure Spc where
  α : Type
  pre : List T → α → Prop
  post : α → T → List T → Prop
def spS (s : Spc) : FSp := fun ts k => ∃ a, s.pre ts a ∧ ∀ t outs, s.post a t outs → k t outs
theorem spS_mono (s : Spc) : MonoF (spS s) := fun ts P Q f ⟨a, h, q⟩ => ⟨a, h, fun t outs p => f _ _ (q t outs p)⟩
/-- .. of one that only reads its arguments -/
structure SpcP where
  α : Type
  pre : List D → α → Prop
  post : α → T → Prop
def SpcP.s (s : SpcP) : Spc := ⟨s.α, fun ts a => ∃ ds, ts = ds.map T.s ∧ s.pre ds a, fun a t _ => s.post a t⟩
inductive Outs : List V → List T → En → List T → Prop
  | nil {env : En} : Outs [] [] env []
  | s {v : V} {vs : List V} {d : D} {ts us : List T} {env : En} : Outs vs ts env.tail us → Outs (v :: vs) (.s d :: ts) env (.s d :: us)
  | own {v : V} {vs : List V} {sh : Shape} {ks : List T} {t : T} {ts us : List T} {env : En} : Outs vs ts env us → Outs (v :: vs) (.node sh ks :: ts) (.own (some v) t :: env) (t :: us)
def startE (N : List Str) (vs : List V) (ts : List T) : En := argCells vs ts ++ List.replicate (N.length - vs.length) .un
def startP (N : List Str) (ds : List D) : En := ds.map (fun d => Cell.own none (.s d)) ++ List.replicate (N.length - ds.length) .un
section
variable {K : PySem.W.Frag} {S B H S' B' H' S0 B0 H0 : Hp} {σ : L2.St} {env : En} {G G0 : List Addr}
theorem slots_un : ∀ n : Nat, SlotsOk K S B H (List.replicate n .un) (List.replicate n none) []
  | 0 => .nil
  | n + 1 => by
    rw [List.replicate_succ, List.replicate_succ]
    exact .cons (F := []) (G := []) rfl (slots_un n) fun _ z => nomatch z
theorem SlotsOk.app : ∀ {env : En} {σ : L2.St} {G : List Addr} {env2 : En} {σ2 : L2.St}, SlotsOk K S B H env σ G → SlotsOk K S B H env2 σ2 [] → SlotsOk K S B H (env ++ env2) (σ ++ σ2) G
  | _, _, _, _, _, .nil, h => h
  | _, _, _, _, _, .cons h1 h2 h3, h => .cons h1 (SlotsOk.app h2 h) h3
theorem sr_start {N : List Str} {vs : List V} {ts : List T} (sr : SR K S B H (vs.map some) (argCells vs ts)) : SR K S B H (L2.start N vs) (startE N vs ts) := by
  obtain ⟨G, sl⟩ := sr.sl
  exact ⟨sr.sb, sr.bh, G, sl.app (slots_un _)⟩
theorem argCell_ok {v : V} {t : T} {F : List Addr} (o : Own K S H v t F) (nb : ∀ p ∈ F, B p = none) : SlotOk K S B H (argCell v t) (some v) F := by
  cases t with
  | s d => exact ⟨v, rfl, (fun _ z => nomatch z), o, nb⟩
  | node sh ks => exact ⟨v, rfl, fun w e => Option.some.inj e, o, nb⟩
theorem argCell_own {v : V} {t : T} {ov : Option V} {F : List Addr} (h : SlotOk K S B H (argCell v t) ov F) (e : ov = some v) : Own K S H v t F ∧ ∀ p ∈ F, B p = none := by
  cases t with
  | s d =>
    obtain ⟨v', e1, _, o, nb⟩ := h
    rw [e] at e1
    cases e1
    exact ⟨o, nb⟩
  | node sh ks =>
    obtain ⟨v', e1, _, o, nb⟩ := h
    rw [e] at e1
    cases e1
    exact ⟨o, nb⟩
theorem outs_slots (es : Ex S0 S') : ∀ {vs : List V} {ts us : List T} {env : En} {σ : L2.St} {G G0 : List Addr}, Outs vs ts env us → SlotsOk K S0 B0 H0 (argCells vs ts) (vs.map some) G0 → SlotsOk K S' B' H' env σ G → ∃ G', SlotsOk K S' B' H' (argCells vs us) (vs.map some) G' ∧ ∀ p ∈ G', p ∈ G
  | _, _, _, _, _, _, _, .nil, _, _ => ⟨[], .nil, fun _ z => nomatch z⟩
  | _, _, _, _, σ, G, _, @Outs.s v vs d ts us env h, h0, sl => by
    cases h0 with
    | cons h1 h2 h3 =>
      obtain ⟨o, _⟩ := argCell_own (t := .s d) h1 rfl
      cases o with
      | s o =>
        have tl : ∃ σ2 G2, SlotsOk K S' B' H' env.tail σ2 G2 ∧ ∀ p ∈ G2, p ∈ G := by
          cases sl with
          | nil => exact ⟨[], [], .nil, fun _ z => nomatch z⟩
          | cons s1 s2 s3 => exact ⟨_, _, s2, fun p hp => List.mem_append_right _ hp⟩
        obtain ⟨σ2, G2, sl2, sub⟩ := tl
        obtain ⟨G', a, b⟩ := outs_slots es h h2 sl2
        exact ⟨[] ++ G', .cons ⟨v, rfl, (fun _ z => nomatch z), .s (o.mono es), fun _ z => nomatch z⟩ a (fun _ z => nomatch z), fun p hp => sub p (b p hp)⟩
  | _, _, _, _, _, _, _, @Outs.own v vs sh ks t ts us env h, h0, sl => by
    cases h0 with
    | cons h1 h2 h3 =>
      cases sl with
      | @cons _ _ _ _ F G s1 s2 s3 =>
        obtain ⟨v', e1, e2, o, nb⟩ := s1
        cases e2 v rfl
        obtain ⟨G', a, b⟩ := outs_slots es h h2 s2
        refine ⟨F ++ G', .cons (argCell_ok o nb) a fun p hp hq => s3 p hp (b p hq), fun p hp => ?_⟩
        rcases List.mem_append.mp hp with z | z
        · exact List.mem_append_left _ z
        · exact List.mem_append_right _ (b p z)
theorem outs_pure : ∀ {vs : List V} {ds : List D} {env : En}, vs.length = ds.length → Outs vs (ds.map T.s) env (ds.map T.s)
  | [], [], _, _ => .nil
  | v :: vs, d :: ds, _, h => .s (outs_pure (by simpa using h))
theorem argCells_pure : ∀ {vs : List V} {ds : List D}, vs.length = ds.length → argCells vs (ds.map T.s) = ds.map fun d => Cell.own none (.s d)
  | [], [], _ => rfl
  | v :: vs, d :: ds, h => by
    show argCell v (.s d) :: argCells vs (ds.map T.s) = _
    rw [argCells_pure (by simpa using h)]
    rfl
end
section
variable {P : Program} {w : World} {K : PySem.W.Frag} {mg : Str → Option Value} {base : Heap}
/-- THE RULE for a def -/
theorem fn_ok {x qual : Str} {st : Stmt} {f : Addr} {fd : FuncData} {N ps : List Str} {k : Nat} (s : Spc) (F : Fun K x qual st f fd) (S : FnScope N ps (defScope st)) (len : ∀ ts a, s.pre ts a → ts.length = ps.length)
    (hb : ∀ (cdv : Value) (A : Around) (outer : List Env) (s1 : Shared) (H : Hp) (E : XK), Room k (cxOf CX0 P w K mg base N qual (defScope st) f cdv A outer s1 H E).nox.A → ∃ p, PDSs (cxOf CX0 P w K mg base N qual (defScope st) f cdv A outer s1 H E).nox (defBody st) p ∧
      ∀ vs ts a, s.pre ts a → vs.length = ts.length → p { nx := fun env => ∃ outs, Outs vs ts env outs ∧ s.post a (.s .non) outs, rt := fun t env => ∃ outs, Outs vs ts env outs ∧ s.post a t outs } (startE N vs ts)) :
    FnOk P w K mg base CX0 (k + 1) f fd ps (spF K (spS s)) := by
  refine F.ok S (fun vs H Q E h => ?_) (fun cdv A outer s1 H vs Q E hr h => ?_)
  · obtain ⟨S, B, ts, sr, hl, a, pre, q⟩ := h
    rw [hl, len ts a pre]
  · obtain ⟨S, B, ts, sr, hl, a, pre, q⟩ := h
    obtain ⟨p, hp, hq⟩ := hb cdv A outer s1 H E hr
    refine ⟨_, hp.run, S, B, startE N vs ts, _, sr_start sr, hq vs ts a pre hl, ⟨fun S' B' σ' H' env' ev sr' ⟨outs, o, ps⟩ => ?_, fun _ _ _ _ _ _ _ z => z.elim, fun _ _ _ _ _ _ _ z => z.elim, fun S' B' σ' H' env' v t ev sr' ⟨outs, o, ps⟩ => ?_⟩⟩
    · obtain ⟨G0, sl0⟩ := sr.sl
      obtain ⟨G, sl⟩ := sr'.sl
      obtain ⟨G', a1, a2⟩ := outs_slots ev.s o sl0 sl
      exact q _ _ ps S' B' .non H' ev (SR.cons sr'.sb sr'.bh a1 (.s .non) (fun _ z => nomatch z) fun _ z => nomatch z)
    · obtain ⟨G0, sl0⟩ := sr.sl
      obtain ⟨G, sl⟩ := sr'.sl
      cases sl with
      | cons s1 s2 s3 =>
        obtain ⟨G', a1, a2⟩ := outs_slots ev.s o sl0 s2
        obtain ⟨v', e1, _, ot, nb⟩ := s1
        cases e1
        exact q _ _ ps S' B' v H' ev (SR.cons sr'.sb sr'.bh a1 ot nb fun p hp hq => s3 p hp (a2 p hq))
/-- .. that only reads its arguments -/
theorem fn_okP {x qual : Str} {st : Stmt} {f : Addr} {fd : FuncData} {N ps : List Str} {k : Nat} (s : SpcP) (F : Fun K x qual st f fd) (S : FnScope N ps (defScope st)) (len : ∀ ds a, s.pre ds a → ds.length = ps.length)
    (hb : ∀ (cdv : Value) (A : Around) (outer : List Env) (s1 : Shared) (H : Hp) (E : XK), Room k (cxOf CX0 P w K mg base N qual (defScope st) f cdv A outer s1 H E).nox.A → ∃ p, PDSs (cxOf CX0 P w K mg base N qual (defScope st) f cdv A outer s1 H E).nox (defBody st) p ∧
      ∀ ds a, s.pre ds a → p { nx := fun _ => s.post a (.s .non), rt := fun t _ => s.post a t } (startP N ds)) :
    FnOk P w K mg base CX0 (k + 1) f fd ps (spF K (spS s.s)) := by
  refine fn_ok s.s F S (fun ts a ⟨ds, e, pre⟩ => by rw [e, List.length_map]; exact len ds a pre) fun cdv A outer s1 H E hr => ?_
  obtain ⟨p, hp, hq⟩ := hb cdv A outer s1 H E hr
  refine ⟨p, hp, fun vs ts a ⟨ds, e, pre⟩ hl => ?_⟩
  subst e
  rw [List.length_map] at hl
  have e : startE N vs (ds.map T.s) = startP N ds := by
    unfold startE startP
    rw [argCells_pure hl, hl]
  rw [e]
  exact hp.mono (a := { nx := fun _ => s.post a (.s .non), rt := fun t _ => s.post a t }) _ ⟨fun env h => ⟨_, outs_pure hl, h⟩, fun t env h => ⟨_, outs_pure hl, h⟩, fun _ h => h, fun _ h => h⟩ (hq ds a pre)
end
end PL

/-! The pure layer, part 15: how many kinds, sorted pairs. -/
namespace PL
open PySem L2

/-! ### len(set(xs)), xs a list of ints -/
open PyProof.Rows in
theorem met_le (val : Nat → Int) (i : Nat) : (firstMet val i).length ≤ i := firstMet_length_le val i
open PyProof.Rows in
theorem met_iff (val : Nat → Int) : ∀ i : Nat, (firstMet val i).length = i ↔ ((List.range i).map val).Nodup
  | 0 => by rw [firstMet_zero]; simp
  | i + 1 => by
    rw [firstMet_succ, List.range_succ, List.map_append, List.map_singleton]
    have ih := met_iff val i
    have le := met_le val i
    unfold step_dedup
    have ha := firstMet_any val i (val i)
    by_cases c : (firstMet val i).any (· == val i) = true
    · rw [if_pos c]
      refine ⟨fun h => by omega, fun h => ?_⟩
      rw [c] at ha
      have hm := List.any_eq_true.mp ha.symm
      obtain ⟨x, hx, ex⟩ := hm
      have ex : x = val i := by simpa using ex
      subst ex
      exact absurd (List.nodup_append.mp h).2.2 (fun z => z _ hx _ (.head _) rfl)
    · rw [if_neg c, List.length_append, List.length_singleton]
      refine ⟨fun h => ?_, fun h => ?_⟩
      · have h1 := ih.mp (by omega)
        refine List.nodup_append.mpr ⟨h1, List.nodup_cons.mpr ⟨(fun z => nomatch z), List.nodup_nil⟩, fun a ha' b hb => ?_⟩
        cases List.mem_singleton.mp hb
        intro e
        subst e
        apply c
        rw [ha]
        exact List.any_eq_true.mpr ⟨_, ha', by simp⟩
      · have h1 := ih.mpr (List.nodup_append.mp h).1
        omega
theorem range_getD (ns : List Int) : (List.range ns.length).map (fun i => ns.getD i 0) = ns := by
  refine List.ext_getElem? fun i => ?_
  rw [List.getElem?_map]
  by_cases h : i < ns.length
  · rw [List.getElem?_range h, List.getElem?_eq_getElem h]
    simp [List.getD_eq_getElem?_getD, List.getElem?_eq_getElem h]
  · rw [List.getElem?_eq_none (by rw [List.length_range]; omega), List.getElem?_eq_none (by omega)]
    rfl
/-- how many kinds there are among the items -/
def gKinds : List D → (D → Prop) → Prop
  | [.node .lst ds], k => ∃ ns, intsD ds = some ns ∧ ns.length < 64 ∧ ∀ n : Nat, n ≤ ns.length → (n = ns.length ↔ ns.Nodup) → k (.int n)
  | _, _ => False
theorem mono_kinds : MonoC gKinds := fun ds P Q f h => by
  unfold gKinds at h ⊢
  split at h
  · obtain ⟨ns, a, b, h⟩ := h
    exact ⟨ns, a, b, fun n x y => f _ (h n x y)⟩
  · exact h.elim
section
variable {X : Cx}
def tKinds (K : PySem.W.Frag) (ta : TE) : TE := fun σ H Q => ta σ H fun x H1 => ∃ (l : Addr) (ns : List Int), x = V.ref l ∧ SqL K H1 l (ns.map V.int) ∧ ns.length < 64 ∧ ∀ n : Nat, n ≤ ns.length → (n = ns.length ↔ ns.Nodup) → Q (.int n) H1
open PySem.Spec PyProof.Rows in
theorem pe_kinds {a : Expr} {ta : TE} {p p2 q pos : Pos} (hc : X.calm = true) (hg : Gl X "len") (hm : X.mg "len" = none) (hg2 : Gl X "set") (hm2 : X.mg "set" = none) (ha : PE X a ta)
    (na : starEach [a] X.env = (false, eval a X.env) :: starEach [] X.env := by rfl) : PE X (.Call (.Name "len" p) [.Call (.Name "set" p2) [a] [] q] [] pos) (tKinds X.K ta) := by
  refine ⟨fun pins s σ H Q I h => Call_ (ld_blt I hg hm PySem.boot_len (PyProof.Rows.callWith_builtin1 (PyProof.Rows.args_cons ?_ rfl) rfl rfl))⟩
  refine Call_ (ld_blt I hg2 hm2 PyProof.Rows.boot_set (PyProof.Rows.callWith_type1 (PyProof.Rows.args_cons (thn (ha.run pins s σ H _ I h) fun v s1 ⟨x, H1, I1, r1, l, ns, ex, hq, h1, q1⟩ => PyProof.Rows.args_nil ?_) na) na rfl))
  subst ex
  cases r1
  obtain ⟨its, r, pl, hz⟩ := I1.list hq
  have hl : its.toArray.size = ns.length := by rw [List.size_toArray, ← r.length, List.length_map]
  refine call_set_list (I1.ok.hd hc) pl.isList (ns := ns) (by simpa using r.ints) (by unfold scanBound; omega) fun h' tk hS hk => ?_
  rw [hl] at hS
  have le := met_le (fun i => ns.getD i 0) ns.length
  have iff := met_iff (fun i => ns.getD i 0) ns.length
  rw [range_getD] at iff
  refine PyProof.Rows.args_nil ?_
  obtain ⟨o, es, ep, t, ho, hex, hd, _, _, _, hf, hn⟩ := hS
  have I2 : Inv X pins σ H1 { s1 with heap := h', toks := tk } := I1.kept fun b o e => hk b o (Heap.lt_size e) e
  exact call_len_set ho hex hd hf (by rw [hn]; omega) ⟨.int _, H1, I2.tok _, ⟨_, by rw [hn]⟩, q1 _ le iff⟩
variable {a e : Expr} {pos p p2 q : Pos} {pa : PX}
theorem d_kinds (hc : X.calm = true) (hg : Gl X "len") (hm : X.mg "len" = none) (hg2 : Gl X "set") (hm2 : X.mg "set" = none) (h : PD X a pa) (na : starEach [a] X.env = (false, eval a X.env) :: starEach [] X.env := by rfl) :
    PD X (.Call (.Name "len" p) [.Call (.Name "set" p2) [a] [] q] [] pos) (pCB gKinds (pCons pa pNil)) := by
  refine ⟨PE.weak (pe_kinds hc hg hm hg2 hm2 h.run na) fun σ H Q ⟨S, B, env, sr, z⟩ => ⟨S, B, env, sr, h.mono env (fun r z S1 B1 v H1 g1 r1 => ?_) z⟩, fun env P Q f z => h.mono env (fun r ⟨ds, e, g⟩ => ⟨ds, e, mono_kinds _ (fun d q => f _ q) g⟩) z⟩
  obtain ⟨ds, e, g⟩ := z
  have e' : (match r.tr env, some ([] : List D) with
      | some t, some ds => some (t.er :: ds)
      | _, _ => none) = some ds := e
  cases ht : r.tr env with
  | none => rw [ht] at e'; cases e'
  | some t =>
    rw [ht] at e'
    cases e'
    have rp := r1.rep (sr.gro g1) ht
    unfold gKinds at g
    split at g
    · rename_i ds' ed
      obtain ⟨ns, ei, hl, g⟩ := g
      have ed : t.er = .node .lst ds' := by
        have := ed
        injection this
      rw [ed] at rp
      cases rp with
      | @node l _ vs _ n1 n2 n3 =>
        obtain ⟨rfl, _⟩ := intsD_rep n3 ei
        exact ⟨l, ns, rfl, SqL.of n1, hl, fun n x y => g n x y S1 B1 _ H1 g1 (RR.sc (.int _))⟩
    · exact g.elim
end

/-! ### sorted, of ints, of pairs of ints -/
def pairT (p : Int × Int) : T := .s (.node .tup [.int p.1, .int p.2])
/-- of ints: ascending; of pairs: in some order -/
def gSort (t : T) (k : T → Prop) : Prop := match t.kids with
  | some (.lst, ts) => (∃ ns : List Int, ts = ns.map (fun n => T.s (.int n)) ∧ ∀ ns' : List Int, ns'.Perm ns → ns'.Pairwise (· ≤ ·) → k (.node .lst (ns'.map fun n => T.s (.int n)))) ∨
    ∃ ps : List (Int × Int), ts = ps.map pairT ∧ ∀ ps' : List (Int × Int), ps'.Perm ps → k (.node .lst (ps'.map pairT))
  | _ => False
theorem mono_sort : MonoT gSort := fun t P Q f h => by
  unfold gSort at h ⊢
  split at h
  · rcases h with ⟨ns, a, h⟩ | ⟨ps, a, h⟩
    · exact .inl ⟨ns, a, fun m x y => f _ (h m x y)⟩
    · exact .inr ⟨ps, a, fun m x => f _ (h m x)⟩
  · exact h.elim
theorem perm_map {α β : Type} (f : α → β) : ∀ {ys xs : List β} , ys.Perm xs → ∀ ps : List α, xs = ps.map f → ∃ ps' : List α, ps'.Perm ps ∧ ys = ps'.map f := by
  intro ys xs h
  induction h with
  | nil => intro ps e; exact ⟨ps, .refl _, e⟩
  | @cons x l1 l2 h ih =>
    intro ps e
    cases ps with
    | nil => cases e
    | cons a ps =>
      rw [List.map_cons] at e
      injection e with e1 e2
      obtain ⟨ps', p1, p2⟩ := ih ps e2
      exact ⟨a :: ps', p1.cons a, by rw [List.map_cons, ← p2, e1]⟩
  | swap x y l =>
    intro ps e
    cases ps with
    | nil => cases e
    | cons a ps =>
      cases ps with
      | nil => cases e
      | cons b ps =>
        rw [List.map_cons, List.map_cons] at e
        injection e with e1 e2
        injection e2 with e2 e3
        exact ⟨b :: a :: ps, .swap a b ps, by rw [List.map_cons, List.map_cons, e1, e2, e3]⟩
  | trans h1 h2 ih1 ih2 =>
    intro ps e
    obtain ⟨ps2, p1, p2⟩ := ih2 ps e
    obtain ⟨ps3, p3, p4⟩ := ih1 ps2 p2
    exact ⟨ps3, p3.trans p1, p4⟩
theorem zip_perm {α β : Type} : ∀ {ys xs : List α}, ys.Perm xs → ∀ ps : List β, xs.length = ps.length → ∃ ps' : List β, ps'.Perm ps ∧ (ys.zip ps').Perm (xs.zip ps) ∧ ys.length = ps'.length := by
  intro ys xs h
  induction h with
  | nil => intro ps e; exact ⟨ps, .refl _, .refl _, e⟩
  | @cons x l1 l2 h ih =>
    intro ps e
    cases ps with
    | nil => cases e
    | cons a ps =>
      obtain ⟨ps', p1, p2, p3⟩ := ih ps (by simpa using e)
      exact ⟨a :: ps', p1.cons a, by rw [List.zip_cons_cons, List.zip_cons_cons]; exact p2.cons _, by simp [p3]⟩
  | swap x y l =>
    intro ps e
    cases ps with
    | nil => cases e
    | cons a ps =>
      cases ps with
      | nil => simp at e
      | cons b ps => exact ⟨b :: a :: ps, .swap a b ps, .swap _ _ _, by simp at e ⊢; omega⟩
  | trans h1 h2 ih1 ih2 =>
    intro ps e
    obtain ⟨ps2, p1, p2, p3⟩ := ih2 ps e
    obtain ⟨ps3, q1, q2, q3⟩ := ih1 ps2 p3
    exact ⟨ps3, q1.trans p1, q2.trans p2, q3⟩
theorem RepL.mem {K : PySem.W.Frag} {S : Hp} : ∀ {ds : List D} {vs : List V}, RepL K S vs ds → ∀ {v : V} {d : D}, (v, d) ∈ vs.zip ds → Rep K S v d
  | [], _, h, _, _, m => by cases h; cases m
  | d :: ds, _, h, v, e, m => by
    cases h with
    | cons h1 h2 =>
      rw [List.zip_cons_cons] at m
      cases m with
      | head => exact h1
      | tail _ m => exact RepL.mem h2 m
theorem RepL.of_mem {K : PySem.W.Frag} {S : Hp} : ∀ {ds : List D} {vs : List V}, vs.length = ds.length → (∀ v d, (v, d) ∈ vs.zip ds → Rep K S v d) → RepL K S vs ds
  | [], [], _, _ => .nil
  | d :: ds, v :: vs, hl, h => .cons (h v d (by rw [List.zip_cons_cons]; exact .head _)) (RepL.of_mem (by simpa using hl) fun v' d' m => h v' d' (by rw [List.zip_cons_cons]; exact .tail _ m))
def rSortU (K : PySem.W.Frag) : List V → Hp → VK → Prop := fun xs H Q => rSortedI K xs H Q ∨ rSortedP K xs H Q
theorem ok_sort {K : PySem.W.Frag} : Ok1 K (rSortU K) gSort := fun S B H x a F Q k sb bh o nb g q => by
  unfold gSort at g
  split at g
  · rename_i ts hk
    rcases g with ⟨ns, e, g⟩ | ⟨ps, e, g⟩
    · refine .inl (ok_sortI S B H x a F Q k sb bh o nb ?_ q)
      unfold gSortI
      rw [hk]
      exact ⟨ns, e, g⟩
    · subst e
      obtain ⟨p, vs, rfl, hn, hz, ol⟩ := o.kids (sb.trans bh) hk
      have em : (ps.map pairT) = (ps.map fun p => D.node .tup [.int p.1, .int p.2]).map T.s := by rw [List.map_map]; rfl
      rw [em] at ol
      obtain ⟨rp, _⟩ := OwnL.unsh ol
      have hl := rp.len
      refine .inr ⟨p, vs, rfl, SqL.of hn, fun v hv => ?_, fun ys l hp hl' => ?_⟩
      · obtain ⟨i, hi⟩ := List.getElem?_of_mem hv
        obtain ⟨d, e1, e2⟩ := rp.getV hi
        rw [List.getElem?_map] at e1
        obtain ⟨pr, _, e3⟩ := Option.map_eq_some_iff.mp e1
        subst e3
        cases e2 with
        | @node t _ ws _ n1 n2 n3 =>
          cases n3 with
          | cons a1 a2 =>
            cases a2 with
            | cons a3 a4 =>
              cases a4
              cases a1
              cases a3
              exact ⟨t, _, _, rfl, (sb.trans bh) _ _ n1⟩
      · obtain ⟨qs, h1, h2, h3⟩ := zip_perm hp _ hl
        obtain ⟨ps', h4, rfl⟩ := perm_map _ h1 ps rfl
        have rq : RepL K S ys (ps'.map fun p => D.node .tup [.int p.1, .int p.2]) := RepL.of_mem h3 fun v d m => rp.mem (h2.mem_iff.mp m)
        have kk := g ps' h4
        have em' : (ps'.map pairT) = (ps'.map fun p => D.node .tup [.int p.1, .int p.2]).map T.s := by rw [List.map_map]; rfl
        rw [em'] at kk
        refine q _ S B _ _ _ (.new sb bh hl') (own_new (OwnL.sh rq) hl' (by rw [hp.length_eq]; exact hz)) (fun z hz => ?_) kk
        cases hz with
        | head => exact ⟨.inr hl', ex_none bh hl'⟩
        | tail _ hz => cases hz
  · exact g.elim
section
variable {X : Cx} {a : Expr} {pos p : Pos} {pa : PX}
theorem d_sort (hg : Gl X "sorted") (hm : X.mg "sorted" = none) (h : PD X a pa) (he : starEach [a] X.env = (false, eval a X.env) :: starEach [] X.env := by rfl) : PD X (.Call (.Name "sorted" p) [a] [] pos) (pC1 gSort pa) := d_callB1 (cr_sortedI.or cr_sortedP) ok_sort mono_sort hg hm (by decide +kernel) h (by decide) (by decide) he
end
end PL

/-! The pure layer, part 16: words for the proofs about pure terms. -/
namespace PL
open PySem L2
abbrev gLt : D → D → (D → Prop) → Prop := gCmp fun i j => decide (i < j)
abbrev gLe : D → D → (D → Prop) → Prop := gCmp fun i j => decide (i ≤ j)
abbrev gGt : D → D → (D → Prop) → Prop := gCmp fun i j => decide (j < i)
abbrev gGe : D → D → (D → Prop) → Prop := gCmp fun i j => decide (j ≤ i)

/-! ### set and frozen at once -/
def pAsgF (i : Nat) (p : PXM) : PSt := fun pd env => p env fun t env' => ∃ e2, setO i (.s t.er) env' = some e2 ∧ pd.nx e2
section
variable {X : Cx} {st : Stmt} {pm : PXM} {i : Nat}
theorem setO_frz {t : T} {env e2 : En} (h : setO i (.s t.er) env = some e2) : ∃ e1, setO i t env = some e1 ∧ e1[i]? = some (.own none t) ∧ e1.set i (.own none (.s t.er)) = e2 := by
  have hl : ∀ c, env[i]? = some c → i < env.length := fun c h => (List.getElem?_eq_some_iff.mp h).1
  unfold setO at h ⊢
  split at h
  · rename_i e
    cases h
    exact ⟨_, rfl, List.getElem?_set_self (hl _ e), List.set_set _⟩
  · rename_i e
    cases h
    exact ⟨_, rfl, List.getElem?_set_self (hl _ e), List.set_set _⟩
  · cases h
theorem ds_asgF (h : PDS X st (pAsg i pm)) (hm : MonoM pm) : PDS X st (pAsgF i pm) := by
  refine ⟨PS.weak h.run fun D σ H ⟨S, B, env, pd, sr, q, br⟩ => ?_, fun env le q => hm env (fun t e ⟨e2, se, q⟩ => ⟨e2, se, le.nx _ q⟩) q⟩
  refine ⟨S, B, env, { pd with nx := fun e => ∃ t, e[i]? = some (.own none t) ∧ pd.nx (e.set i (.own none (.s t.er))) }, sr, ?_, ⟨fun S' B' σ' H' env' ev sr' ⟨t, et, q⟩ => ?_, br.bk, br.ct, br.rt⟩⟩
  · exact hm env (fun t e ⟨e2, se, q⟩ => let ⟨e1, a, b, c⟩ := setO_frz se; ⟨e1, a, t, b, by rw [c]; exact q⟩) q
  · obtain ⟨S2, B2, ev2, sr2⟩ := sr'.frz et
    exact br.nx S2 B2 σ' H' _ (ev.trans ev2) sr2 q
theorem mono_lc {pi : PI'} {tgt : Tgt} {pt : PB} {pe : PX} {vs : List Nat} (h : MonoI pi) : MonoM (pLift (pLc pi tgt pt pe vs)) := fun env P Q f q =>
  pLc_mono h env (fun r ⟨t, e, q⟩ => ⟨t, e, f _ _ q⟩) q
end

section
variable {X : Cx}
theorem ds_setLcF {i : Nat} {y : Str} {py : Pos} {elt tg iter : Expr} {ifs : List Expr} {scope : Scope} {own : List (Str × Nat)} {cpos spos : Pos} {pi : PI'} {tgt : Tgt} {pt : PB} {pe : PX} (hc : X.calm = true) (hN : X.N.Nodup) (hy : X.N[i]? = some y) (hyl : X.env.scope.names.lookup y = some .local)
    (hsw : swapsWith (.ListComp elt [⟨tg, iter, ifs, 0⟩] scope cpos) (some (.Name y py)) spos.line X.env = pure true) (hi : PDI X tg iter pi) (ok : BlkOk X.N X.env.scope scope own) (hv : ∀ j ∈ tgt.ixs, j ∈ own.map (·.2))
    (hg : ∀ (s : Shared) (H : Hp) (C : Addr) (cl : List (Str × Addr)) (fp : List Addr), PDG (X.blk s H scope (compEnvC scope cl C X.env) fp) tg tgt) (ht : ∀ (s : Shared) (H : Hp) (C : Addr) (cl : List (Str × Addr)) (fp : List Addr), PDTs (X.blk s H scope (compEnvC scope cl C X.env) fp) ifs pt)
    (he : ∀ (s : Shared) (H : Hp) (C : Addr) (cl : List (Str × Addr)) (fp : List Addr), PD (X.blk s H scope (compEnvC scope cl C X.env) fp) elt pe) (hs : ∀ x, foldedSetIterable iter X.env x = pure x := by intro _; rfl) :
    PDS X (.Assign [.Name y py] (.ListComp elt [⟨tg, iter, ifs, 0⟩] scope cpos) spos) (pAsgF i (pLift (pLc pi tgt pt pe (own.map (·.2))))) :=
  ds_asgF (ds_setLc hc hN hy hyl hsw hi ok hv hg ht he hs) (mono_lc hi.mono)
end

/-! ### a result frozen -/
def pFz (p : PX) : PX := fun env k => p env fun r => ∃ t, r = .va t ∧ k (.va (.s t.er))
theorem d_fz {X : Cx} {e : Expr} {p : PX} (h : PD X e p) : PD X e (pFz p) := by
  refine ⟨PE.weak h.run fun σ H Q ⟨S, B, env, sr, q⟩ => ⟨S, B, env, sr, h.mono env (fun r ⟨t, e, q⟩ S1 B1 v H1 g r1 => ?_) q⟩, fun env P Q f q => h.mono env (fun r ⟨t, e, q⟩ => ⟨t, e, f _ q⟩) q⟩
  subst e
  obtain ⟨F, o, fr⟩ := r1
  have g2 : Gro S B H _ _ H1 := g.frz (G := F) fr
  exact q _ _ v H1 g2 (RR.sc (o.frz (ex_joinF (g.sb.trans g.bh)) fun p hp => joinF_in hp))

/-! ### cells that may be set -/
def okC : Option Cell → Bool
  | some .un => true
  | some (.own none _) => true
  | _ => false
def fc : Option D → Cell
  | none => .un
  | some d => .own none (.s d)
def ft : Option T → Cell
  | none => .un
  | some d => .own none d
@[simp] theorem okC_un : okC (some .un) = true := rfl
@[simp] theorem okC_own {t : T} : okC (some (.own none t)) = true := rfl
@[simp] theorem okC_fc {o : Option D} : okC (some (fc o)) = true := by cases o <;> rfl
@[simp] theorem okC_ft {o : Option T} : okC (some (ft o)) = true := by cases o <;> rfl
@[simp] theorem setN_eq {i : Nat} {d : D} {env : En} : setN i d env = if okC env[i]? = true then some (env.set i (.own none (.s d))) else none := by
  unfold setN okC
  split <;> simp_all
@[simp] theorem setO_eq {i : Nat} {d : T} {env : En} : setO i d env = if okC env[i]? = true then some (env.set i (.own none d)) else none := by
  unfold setO okC
  split <;> simp_all

/-! ### eliminators -/
def optK {α : Type} (o : Option α) (K : α → Prop) : Prop := ∃ t, o = some t ∧ K t
def opt2 {α β : Type} (o : Option α) (o' : Option β) (K : α → β → Prop) : Prop := ∃ a b, o = some a ∧ o' = some b ∧ K a b
def vaK (r : R) (K : T → Prop) : Prop := ∃ t, r = .va t ∧ K t
def blK (r : R) (K : Bool → Prop) : Prop := ∃ c, r = .va (.s (.bl c)) ∧ K c
def inK (r : R) (K : Int → Prop) : Prop := ∃ c, r = .va (.s (.int c)) ∧ K c
def in2 (r r' : R) (K : Int → Int → Prop) : Prop := ∃ m n, r = .va (.s (.int m)) ∧ r' = .va (.s (.int n)) ∧ K m n
def dbK (d : D) (K : Bool → Prop) : Prop := ∃ c, d = .bl c ∧ K c
def scK (t : T) (K : D → Prop) : Prop := ∃ d, t = .s d ∧ K d
def pathK (r : R) (env : En) (K : Nat → List Nat → Option V → T → T → Prop) : Prop := ∃ i π pin u u1, r = .bo i π ∧ env[i]? = some (.own pin u) ∧ u.at π = some u1 ∧ K i π pin u u1
def ownK (c : Option Cell) (K : Option V → T → Prop) : Prop := ∃ pin t, c = some (.own pin t) ∧ K pin t
def lstK (t : T) (K : List T → Prop) : Prop := ∃ ts, t = .node .lst ts ∧ K ts
@[simp] theorem optK_some {α : Type} {a : α} {K : α → Prop} : optK (some a) K = K a := propext ⟨fun ⟨t, e, h⟩ => by cases e; exact h, fun h => ⟨a, rfl, h⟩⟩
@[simp] theorem optK_none {α : Type} {K : α → Prop} : optK none K = False := propext ⟨(fun ⟨t, e, h⟩ => nomatch e), False.elim⟩
@[simp] theorem opt2_some {α β : Type} {a : α} {b : β} {K : α → β → Prop} : opt2 (some a) (some b) K = K a b := propext ⟨fun ⟨_, _, e, e', h⟩ => by cases e; cases e'; exact h, fun h => ⟨a, b, rfl, rfl, h⟩⟩
@[simp] theorem vaK_va {t : T} {K : T → Prop} : vaK (.va t) K = K t := propext ⟨fun ⟨_, e, h⟩ => by cases e; exact h, fun h => ⟨t, rfl, h⟩⟩
@[simp] theorem blK_va {c : Bool} {K : Bool → Prop} : blK (.va (.s (.bl c))) K = K c := propext ⟨fun ⟨_, e, h⟩ => by cases e; exact h, fun h => ⟨c, rfl, h⟩⟩
@[simp] theorem inK_va {c : Int} {K : Int → Prop} : inK (.va (.s (.int c))) K = K c := propext ⟨fun ⟨_, e, h⟩ => by cases e; exact h, fun h => ⟨c, rfl, h⟩⟩
@[simp] theorem in2_va {c d : Int} {K : Int → Int → Prop} : in2 (.va (.s (.int c))) (.va (.s (.int d))) K = K c d := propext ⟨fun ⟨_, _, e, e', h⟩ => by cases e; cases e'; exact h, fun h => ⟨c, d, rfl, rfl, h⟩⟩
@[simp] theorem dbK_bl {c : Bool} {K : Bool → Prop} : dbK (.bl c) K = K c := propext ⟨fun ⟨_, e, h⟩ => by cases e; exact h, fun h => ⟨c, rfl, h⟩⟩
@[simp] theorem scK_s {d : D} {K : D → Prop} : scK (.s d) K = K d := propext ⟨fun ⟨_, e, h⟩ => by cases e; exact h, fun h => ⟨d, rfl, h⟩⟩
@[simp] theorem pathK_bo {i : Nat} {π : List Nat} {env : En} {K : Nat → List Nat → Option V → T → T → Prop} : pathK (.bo i π) env K = ownK env[i]? fun pin u => optK (u.at π) fun u1 => K i π pin u u1 :=
  propext ⟨fun ⟨_, _, pin, u, u1, e, e1, e2, h⟩ => by cases e; exact ⟨pin, u, e1, u1, e2, h⟩, fun ⟨pin, u, e1, u1, e2, h⟩ => ⟨i, π, pin, u, u1, rfl, e1, e2, h⟩⟩
@[simp] theorem ownK_own {pin : Option V} {t : T} {K : Option V → T → Prop} : ownK (some (.own pin t)) K = K pin t := propext ⟨fun ⟨_, _, e, h⟩ => by cases e; exact h, fun h => ⟨pin, t, rfl, h⟩⟩
@[simp] theorem lstK_l {ts : List T} {K : List T → Prop} : lstK (.node .lst ts) K = K ts := propext ⟨fun ⟨_, e, h⟩ => by cases e; exact h, fun h => ⟨ts, rfl, h⟩⟩

/-- a call by its promise -/
def callP (s : SpcP) (ds : List D) (K : T → Prop) : Prop := ∃ a, s.pre ds a ∧ ∀ t, s.post a t → K t
theorem call_of {s : SpcP} {ds : List D} {K : T → Prop} (a : s.α) (h : s.pre ds a) (q : ∀ t, s.post a t → K t) : callP s ds K := ⟨a, h, q⟩
/-! ### loops by what they change -/
def ups : List (Nat × Cell) → En → En
  | [], e => e
  | (i, c) :: r, e => (ups r e).set i c
@[simp] theorem ups_nil {e : En} : ups [] e = e := rfl
@[simp] theorem ups_cons {i : Nat} {c : Cell} {r : List (Nat × Cell)} {e : En} : ups ((i, c) :: r) e = (ups r e).set i c := rfl
/-- at the end of a turn -/
inductive Nxt {ι : Type} (up : ι → List (Nat × Cell)) (I : Nat → ι → Prop) (k : Nat) (env e : En) : Prop where
  | mk (s : ι) (h : I k s) (q : e = ups (up s) env)
theorem nxt {ι : Type} {up : ι → List (Nat × Cell)} {I : Nat → ι → Prop} {k : Nat} {env e : En} (s : ι) (h : I k s) (q : e = ups (up s) env) : Nxt up I k env e := .mk s h q
theorem loop_rel {items : List D} {tgt : Tgt} {body : PSt} {aft : En → Prop} {rt : T → En → Prop} {env : En} {ι : Type} (up : ι → List (Nat × Cell)) (I : Nat → ι → Prop) (s0 : ι) (h0 : I 0 s0) (e0 : ups (up s0) env = env)
    (hs : ∀ k d s, items[k]? = some d → k < items.length → I k s → optK (setT tgt d (ups (up s) env)) fun e2 => body { nx := Nxt up I (k + 1) env, ct := Nxt up I (k + 1) env, bk := aft, rt := rt } e2)
    (hd : ∀ s, I items.length s → aft (ups (up s) env)) : loopD items tgt body aft rt env :=
  ⟨fun k e => Nxt up I k env e, ⟨s0, h0, e0.symm⟩, fun k d env' hk ⟨s, hi, e⟩ => by
    subst e
    exact hs k d s hk (List.getElem?_eq_some_iff.mp hk).1 hi, fun env' ⟨s, hi, e⟩ => by
    subst e
    exact hd s hi⟩

/-! ### the transformers, one by one -/
section
variable {env : En} {pd : PEnds} {k : R → Prop} {kA : List R → Prop} {kB : Bool → Prop} {kM : T → En → Prop} {kI : ItD → Prop} {p q : PX} {pa : PAs} {pb pb' : PB} {pm : PXM} {ps ps' : PSt} {pi : PI'} {i j : Nat} {d e : D} {t u : T} {kD : D → Prop} {kT : T → Prop} {ds es : List D} {ts us : List T} {m n : Int} {x y : Str} {b c : Bool} {g : D → D → (D → Prop) → Prop} {gc : List D → (D → Prop) → Prop} {gt : T → T → (T → Prop) → Prop} {g1 : T → (T → Prop) → Prop} {tgt : Tgt} {vs : List Nat}
@[simp] theorem pVar_eq : pVar i env k = (match env[i]? with
  | some (.own _ (.s d)) => k (.va (.s d))
  | some (.own _ (.node _ _)) => k (.bo i [])
  | some (.lk _ (.s d)) => k (.va (.s d))
  | some (.lk _ (.node _ _)) => k (.bo i [])
  | _ => False) := rfl
@[simp] theorem pFz_eq : pFz p env k = p env fun r => vaK r fun t => k (.va (.s t.er)) := rfl
@[simp] theorem pC_eq : pC d env k = k (.va (.s d)) := rfl
@[simp] theorem pNil_eq : pNil env kA = kA [] := rfl
@[simp] theorem pCons_eq : pCons p pa env kA = p env fun r => pa env fun rs => kA (r :: rs) := rfl
@[simp] theorem p2_eq : p2 g p q env k = p env fun ra => q env fun rb => opt2 (ra.tr env) (rb.tr env) fun a b => g a.er b.er fun d => k (.va (.s d)) := rfl
@[simp] theorem p2T_eq : p2T g p q env kB = p env fun ra => q env fun rb => opt2 (ra.tr env) (rb.tr env) fun a b => g a.er b.er fun d => dbK d kB := rfl
@[simp] theorem pOp_eq : pOp gt p q env k = p env fun ra => q env fun rb => opt2 (ra.mv env) (rb.mv env) fun a b => gt a b fun t => k (.va t) := rfl
@[simp] theorem pBl_eq : pBl p env kB = p env fun r => blK r kB := rfl
@[simp] theorem pAndT_eq : pAndT pb pb' env kB = pb env fun c => if c = true then pb' env kB else kB false := rfl
@[simp] theorem pOrT_eq : pOrT pb pb' env kB = pb env fun c => if c = true then kB true else pb' env kB := rfl
@[simp] theorem pNotT_eq : pNotT pb env kB = pb env fun c => kB (!c) := rfl
@[simp] theorem pAndV_eq : pAndV p q env k = p env fun r => blK r fun c => if c = true then q env k else k (.va (.s (.bl false))) := rfl
@[simp] theorem pOrV_eq : pOrV p q env k = p env fun r => blK r fun c => if c = true then k (.va (.s (.bl true))) else q env k := rfl
@[simp] theorem pNotV_eq : pNotV p env k = p env fun r => blK r fun c => k (.va (.s (.bl (!c)))) := rfl
@[simp] theorem pIfE_eq : pIfE pb p q env k = pb env fun c => if c = true then p env k else q env k := rfl
@[simp] theorem pNeg_eq : pNeg p env k = p env fun r => inK r fun i => k (.va (.s (.int (-i)))) := rfl
@[simp] theorem pTup_eq : pTup pa env k = pa env fun rs => optK (vaL rs) fun ts => ts.length ≤ 1000 ∧ k (.va (.s (.node .tup (ts.map T.er)))) := rfl
@[simp] theorem pLst_eq : pLst pa env k = pa env fun rs => optK (vaL rs) fun ts => ts.length ≤ 1000 ∧ k (.va (.node .lst ts)) := rfl
@[simp] theorem vaL_nil : vaL [] = some [] := rfl
@[simp] theorem vaL_va {rs : List R} : vaL (.va t :: rs) = (vaL rs).map (t :: ·) := rfl
@[simp] theorem vaL_bo {rs : List R} {π : List Nat} : vaL (.bo i π :: rs) = none := rfl
@[simp] theorem pIx_eq : pIx p q env k = p env fun ra => q env fun rb => opt2 (ra.tr env) (rb.tr env) fun t u => subT t u.er fun j c => kidR ra j c k := rfl
@[simp] theorem pPart_eq {kO : Option Int → Prop} : pPart p env kO = p env fun r => inK r fun i => kO (some i) := rfl
@[simp] theorem pNoPart_eq {kO : Option Int → Prop} : pNoPart env kO = kO none := rfl
@[simp] theorem pSl_eq {pl ph : PO'} : pSl p pl ph env k = p env fun r => pl env fun lo => ph env fun hi => optK (r.mv env) fun t => gSl t lo hi fun t => k (.va t) := rfl
@[simp] theorem pRev_eq : pRev p env k = p env fun r => optK (r.mv env) fun t => optK t.kids fun x => x.1 = .lst ∧ k (.va (.node .lst x.2.reverse)) := by
  refine congrArg (p env) (funext fun r => propext ⟨fun ⟨t, ts, e, e2, h⟩ => ⟨t, e, _, e2, rfl, h⟩, fun ⟨t, e, ⟨sh, ts⟩, e2, e3, h⟩ => ⟨t, ts, e, by rw [e2]; cases e3; rfl, h⟩⟩)
@[simp] theorem pCB_eq : pCB gc pa env k = pa env fun rs => optK (datsR env rs) fun ds => gc ds fun d => k (.va (.s d)) := rfl
@[simp] theorem pC1_eq : pC1 g1 p env k = p env fun r => optK (r.mv env) fun t => g1 t fun t => k (.va t) := rfl
@[simp] theorem pIsi_eq {T' : String} : pIsi T' p env k = p env fun r => opt2 (r.tr env) ((r.tr env).bind fun t => tyD t.er) fun t ty => k (.va (.s (.bl (isiT T' ty)))) := by
  refine congrArg (p env) (funext fun r => propext ⟨fun ⟨t, ty, e1, e2, h⟩ => ⟨t, ty, e1, by rw [e1]; exact e2, h⟩, fun ⟨t, ty, e1, e2, h⟩ => ⟨t, ty, e1, by rw [e1] at e2; exact e2, h⟩⟩)
@[simp] theorem pCall_eq {s : SpcP} : pCall (spS s.s) pa env k = pa env fun rs => optK (datsR env rs) fun ds => callP s ds fun t => (anyBo rs = true → immT t = true) ∧ k (.va t) := by
  refine congrArg (pa env) (funext fun rs => congrArg (optK (datsR env rs)) (funext fun ds => propext ⟨fun ⟨a, ⟨ds', e, h⟩, q⟩ => ⟨a, ?_, fun t ht => q t [] ht⟩, fun ⟨a, h, q⟩ => ⟨a, ⟨ds, rfl, h⟩, fun t _ ht => q t ht⟩⟩))
  have : ds = ds' := by
    have := congrArg (List.map T.er) e
    rwa [er_s_map, er_s_map] at this
  rw [this]
  exact h
@[simp] theorem anyBo_nil : anyBo [] = false := rfl
@[simp] theorem anyBo_va {rs : List R} : anyBo (.va t :: rs) = anyBo rs := rfl
@[simp] theorem anyBo_bo {rs : List R} {π : List Nat} : anyBo (.bo i π :: rs) = true := rfl
@[simp] theorem datsR_nil : datsR env [] = some [] := rfl
@[simp] theorem datsR_va {rs : List R} : datsR env (.va t :: rs) = (datsR env rs).map (t.er :: ·) := by
  show (match some t, datsR env rs with
      | some t, some ds => some (t.er :: ds)
      | _, _ => none) = _
  cases datsR env rs <;> rfl
@[simp] theorem datsR_bo {rs : List R} {π : List Nat} : datsR env (.bo i π :: rs) = (look env i π).bind fun t => (datsR env rs).map (t.er :: ·) := by
  show (match look env i π, datsR env rs with
      | some t, some ds => some (t.er :: ds)
      | _, _ => none) = _
  cases look env i π <;> cases datsR env rs <;> rfl
@[simp] theorem tr_va : R.tr env (.va t) = some t := rfl
@[simp] theorem tr_bo {π : List Nat} : R.tr env (.bo i π) = look env i π := rfl
@[simp] theorem mv_va : R.mv env (.va t) = some t := rfl
@[simp] theorem mv_bo' {π : List Nat} : R.mv env (.bo i π) = (look env i π).bind fun t => if t.flat = true then some t else none := by
  show (match look env i π with
    | some t => if t.flat = true then some t else none
    | none => none) = _
  cases look env i π <;> rfl
@[simp] theorem look_eq {π : List Nat} : look env i π = (env[i]?).bind fun c => c.tr.bind fun t => t.at π := rfl
@[simp] theorem ctr_own {pin : Option V} : Cell.tr (.own pin t) = some t := rfl
@[simp] theorem ctr_lk {F : List Addr} : Cell.tr (.lk F t) = some t := rfl
@[simp] theorem ctr_un : Cell.tr .un = none := rfl
@[simp] theorem at_nil : T.at t [] = some t := by cases t <;> rfl
@[simp] theorem at_node {sh : Shape} {π : List Nat} : T.at (.node sh ts) (j :: π) = (ts[j]?).bind fun c => c.at π := rfl
@[simp] theorem kidR_s {ra : R} : kidR ra j (.s d) k = k (.va (.s d)) := rfl
@[simp] theorem kidR_va {sh : Shape} : kidR (.va u) j (.node sh ts) k = k (.va (.node sh ts)) := rfl
@[simp] theorem kidR_bo {sh : Shape} {π : List Nat} : kidR (.bo i π) j (.node sh ts) k = k (.bo i (π ++ [j])) := rfl
@[simp] theorem flat_s : T.flat (.s d) = true := rfl
@[simp] theorem flat_node {sh : Shape} : T.flat (.node sh ts) = ts.all T.isS := rfl
@[simp] theorem isS_s : T.isS (.s d) = true := rfl
@[simp] theorem isS_node {sh : Shape} : T.isS (.node sh ts) = false := rfl
@[simp] theorem kids_s {sh : Shape} : T.kids (.s (.node sh ds)) = some (sh, ds.map T.s) := rfl
@[simp] theorem kids_node {sh : Shape} : T.kids (.node sh ts) = some (sh, ts) := rfl
@[simp] theorem kids_int : T.kids (.s (.int n)) = none := rfl
@[simp] theorem kids_str : T.kids (.s (.str x)) = none := rfl

/-! operators -/
/-- d is equal to one of them -/
def inL (d : D) (es : List D) : Bool := es.any fun e => deq e d
@[simp] theorem comp_Ts {α : Type} {f : α → D} : T.s ∘ f = fun a => T.s (f a) := rfl
@[simp] theorem comp_er {α : Type} {f : α → T} : T.er ∘ f = fun a => T.er (f a) := rfl
@[simp] theorem gSub_i : gSubI (.int m) (.int n) kD = kD (.int (m - n)) := rfl
@[simp] theorem gDiv_i : gDiv (.int m) (.int n) kD = ((0 < n ∧ n ≤ 4611686018427387904) ∧ kD (.int (m / n))) := rfl
@[simp] theorem gMod_i : gMod (.int m) (.int n) kD = (0 < n ∧ kD (.int (m % n))) := rfl
@[simp] theorem gPow_i : gPow (.int m) (.int n) kD = ((0 ≤ n ∧ n ≤ 1000 ∧ -18446744073709551616 < m ∧ m < 18446744073709551616) ∧ kD (.int (m ^ n.toNat))) := rfl
@[simp] theorem gCmp_i {f : Int → Int → Bool} : gCmp f (.int m) (.int n) kD = kD (.bl (f m n)) := rfl
@[simp] theorem gEq_i : gEq (.int m) (.int n) kD = kD (.bl (decide (m = n))) := rfl
@[simp] theorem gEq_s : gEq (.str x) (.str y) kD = kD (.bl (decide (x = y))) := rfl
@[simp] theorem gEq_b : gEq (.bl b) (.bl c) kD = kD (.bl (decide (b = c))) := rfl
@[simp] theorem gNe_i : gNe (.int m) (.int n) kD = kD (.bl (!decide (m = n))) := rfl
@[simp] theorem gNe_s : gNe (.str x) (.str y) kD = kD (.bl (!decide (x = y))) := rfl
@[simp] theorem gNe_b : gNe (.bl b) (.bl c) kD = kD (.bl (!decide (b = c))) := rfl
@[simp] theorem gEq_n {sh : Shape} : gEq (.node sh ds) e kD = ((shp 64 (.node sh ds) = true ∧ shp 64 e = true) ∧ kD (.bl (deq (.node sh ds) e))) := by cases e <;> rfl
@[simp] theorem gNe_n {sh : Shape} : gNe (.node sh ds) e kD = ((shp 64 (.node sh ds) = true ∧ shp 64 e = true) ∧ kD (.bl (!deq (.node sh ds) e))) := by cases e <;> rfl
@[simp] theorem neg_t : neg' true b = !b := rfl
@[simp] theorem neg_f : neg' false b = b := rfl
@[simp] theorem gIn_l {neg : Bool} : gIn neg d (.node .lst es) kD = ((shp 64 d = true ∧ shpL 63 es = true) ∧ kD (.bl (neg' neg (inL d es)))) := by cases d <;> rfl
@[simp] theorem gIn_t {neg : Bool} : gIn neg d (.node .tup es) kD = ((shp 64 d = true ∧ shpL 63 es = true) ∧ kD (.bl (neg' neg (inL d es)))) := by cases d <;> rfl
@[simp] theorem gIn_dK {neg : Bool} {ks : List Key} : gIn neg d (.node (.dK ks) es) kD = optK d.key fun key => kD (.bl (neg' neg (memK ks key))) := by cases d <;> rfl
@[simp] theorem gIn_dT {neg : Bool} {ks : List (List Key)} : gIn neg d (.node (.dT ks) es) kD = optK d.keyT fun key => kD (.bl (neg' neg (memK ks key))) := by cases d <;> rfl
@[simp] theorem gIs_non {neg : Bool} : gIs neg .non .non kD = kD (.bl (neg' neg true)) := rfl
@[simp] theorem gIs_int {neg : Bool} : gIs neg (.int n) .non kD = kD (.bl (neg' neg false)) := rfl
@[simp] theorem gIs_bl {neg : Bool} : gIs neg (.bl b) .non kD = kD (.bl (neg' neg false)) := rfl
@[simp] theorem gIs_str {neg : Bool} : gIs neg (.str x) .non kD = kD (.bl (neg' neg false)) := rfl
@[simp] theorem gIs_node {neg : Bool} {sh : Shape} : gIs neg (.node sh ds) .non kD = kD (.bl (neg' neg false)) := rfl
@[simp] theorem gAdd_i : gAdd (.s (.int m)) (.s (.int n)) kT = kT (.s (.int (m + n))) := rfl
@[simp] theorem gAdd_s : gAdd (.s (.str x)) (.s (.str y)) kT = (x.length + y.length ≤ sizeLine ∧ kT (.s (.str (x ++ y)))) := rfl
@[simp] theorem gAdd_nn {sh : Shape} : gAdd (.node sh ts) u kT = gAddK (some (sh, ts)) u.kids kT := by cases u <;> rfl
@[simp] theorem gAdd_sn {sh : Shape} : gAdd (.s (.node sh ds)) u kT = gAddK (some (sh, ds.map T.s)) u.kids kT := rfl
@[simp] theorem gAddK_l : gAddK (some (.lst, ts)) (some (.lst, us)) kT = (ts.length + us.length ≤ sizeLine ∧ kT (.node .lst (ts ++ us))) := rfl
@[simp] theorem gAddK_t : gAddK (some (.tup, ts)) (some (.tup, us)) kT = (ts.length + us.length ≤ sizeLine ∧ kT (.s (.node .tup (ts.map T.er ++ us.map T.er)))) := rfl
@[simp] theorem gMul_i : gMul (.s (.int m)) (.s (.int n)) kT = (((-18446744073709551616 < m ∧ m < 18446744073709551616) ∨ (-18446744073709551616 < n ∧ n < 18446744073709551616)) ∧ kT (.s (.int (m * n)))) := rfl
@[simp] theorem gMul_nn {sh : Shape} : gMul (.node sh ts) (.s (.int n)) kT = gMulK (some (sh, ts)) n kT := rfl
@[simp] theorem gMul_sn {sh : Shape} : gMul (.s (.node sh ds)) (.s (.int n)) kT = gMulK (some (sh, ds.map T.s)) n kT := rfl
@[simp] theorem gMulK_l : gMulK (some (.lst, ts)) n kT = ((ts.all T.isS = true ∧ -9223372036854775808 ≤ n ∧ n < 9223372036854775808 ∧ ts.length * n.toNat ≤ sizeLine) ∧ kT (.node .lst (List.replicate n.toNat ts).flatten)) := rfl
@[simp] theorem gSl_l {lo hi : Option Int} : gSl (.s (.node .lst ds)) lo hi kT = kT (.node .lst (cutL (ds.map T.s) lo hi)) := rfl
@[simp] theorem gSl_t {lo hi : Option Int} : gSl (.s (.node .tup ds)) lo hi kT = kT (.s (.node .tup ((cutL (ds.map T.s) lo hi).map T.er))) := rfl
@[simp] theorem gSl_nl {lo hi : Option Int} : gSl (.node .lst ts) lo hi kT = kT (.node .lst (cutL ts lo hi)) := rfl
@[simp] theorem gLen_l : gLen [.node .lst ds] kD = kD (.int ds.length) := rfl
@[simp] theorem gLen_t : gLen [.node .tup ds] kD = kD (.int ds.length) := rfl
@[simp] theorem gLen_r : gLen [.node .ro ds] kD = kD (.int ds.length) := rfl
@[simp] theorem gLen_dK {ks : List Key} : gLen [.node (.dK ks) ds] kD = kD (.int ks.length) := rfl
@[simp] theorem gLen_dT {ks : List (List Key)} : gLen [.node (.dT ks) ds] kD = kD (.int ks.length) := rfl
@[simp] theorem gInt_i : gInt [.int n] kD = kD (.int n) := rfl
@[simp] theorem gInt_b : gInt [.bl b] kD = kD (.int (if b = true then 1 else 0)) := rfl
@[simp] theorem gAbs_i : gAbs [.int n] kD = kD (.int (if n < 0 then -n else n)) := rfl
@[simp] theorem gSum_l : gSum [.node .lst ds] kD = optK (intsD ds) fun ns => kD (.int ns.sum) := rfl
@[simp] theorem gMin_2 : gMin [.int m, .int n] kD = kD (.int (if n < m then n else m)) := rfl
@[simp] theorem gMin_l : gMin [.node .lst ds] kD = optK (intsD ds) fun ns => 0 < ns.length ∧ ∀ m, m ∈ ns → (∀ y ∈ ns, m ≤ y) → kD (.int m) := rfl
@[simp] theorem gMax_2 : gMax [.int m, .int n] kD = kD (.int (if n > m then n else m)) := rfl
@[simp] theorem gMax_l : gMax [.node .lst ds] kD = optK (intsD ds) fun ns => 0 < ns.length ∧ ∀ m, m ∈ ns → (∀ y ∈ ns, y ≤ m) → kD (.int m) := rfl
@[simp] theorem gKinds_l : gKinds [.node .lst ds] kD = optK (intsD ds) fun ns => ns.length < 64 ∧ ∀ n : Nat, n ≤ ns.length → (n = ns.length ↔ ns.Nodup) → kD (.int n) := rfl
@[simp] theorem gList_l : gList (.s (.node .lst ds)) kT = kT (.node .lst (ds.map T.s)) := rfl
@[simp] theorem gList_t : gList (.s (.node .tup ds)) kT = kT (.node .lst (ds.map T.s)) := rfl
@[simp] theorem gList_r : gList (.s (.node .ro ds)) kT = kT (.node .lst (ds.map T.s)) := rfl
@[simp] theorem gList_n : gList (.node .lst ts) kT = kT (.node .lst ts) := rfl
@[simp] theorem gTuple_l : gTuple (.s (.node .lst ds)) kT = kT (.s (.node .tup ((ds.map T.s).map T.er))) := rfl
@[simp] theorem gTuple_t : gTuple (.s (.node .tup ds)) kT = kT (.s (.node .tup ((ds.map T.s).map T.er))) := rfl
@[simp] theorem gTuple_n : gTuple (.node .lst ts) kT = kT (.s (.node .tup (ts.map T.er))) := rfl
@[simp] theorem ers_s : (ds.map T.s).map T.er = ds := er_s_map ds
@[simp] theorem intsD_ints {ns : List Int} : intsD (ns.map D.int) = some ns := intsD_map ns

/-! statements -/
@[simp] theorem pLift_eq : pLift p env kM = p env fun r => vaK r fun t => kM t env := rfl
@[simp] theorem pMove_eq : pMove i env kM = (match env[i]? with
  | some (.own none t) => kM t (env.set i .un)
  | _ => False) := rfl
@[simp] theorem pNext_eq : pNext pd env = pd.nx env := rfl
@[simp] theorem pSeq_eq : pSeq ps ps' pd env = ps { pd with nx := ps' pd } env := rfl
@[simp] theorem pBreak_eq : pBreak pd env = pd.bk env := rfl
@[simp] theorem pCont_eq : pCont pd env = pd.ct env := rfl
@[simp] theorem pDrop_eq : pDrop pm pd env = pm env fun _ env' => pd.nx env' := rfl
@[simp] theorem pRet_eq : pRet pm pd env = pm env fun t env' => pd.rt t env' := rfl
@[simp] theorem pRetN_eq : pRetN pd env = pd.rt (.s .non) env := rfl
@[simp] theorem pIf_eq : pIf pb ps ps' pd env = pb env fun b => if b = true then ps pd env else ps' pd env := rfl
@[simp] theorem pAsg_eq : pAsg i pm pd env = pm env fun t env' => optK (setO i t env') pd.nx := rfl
@[simp] theorem pAsgF_eq : pAsgF i pm pd env = pm env fun t env' => optK (setO i (.s t.er) env') pd.nx := rfl
@[simp] theorem pAsgT_eq : pAsgT tgt pm pd env = pm env fun t env' => scK t fun d => optK (setT tgt d env') pd.nx := by
  refine congrArg (pm env) (funext fun t => funext fun e => propext ⟨fun ⟨d, e2, a, b, c⟩ => ⟨d, a, e2, b, c⟩, fun ⟨d, a, e2, b, c⟩ => ⟨d, e2, a, b, c⟩⟩)
@[simp] theorem pFrz_eq : pFrz i ps pd env = (match env[i]? with
  | some (.own none t) => ps pd (env.set i (.own none (.s t.er)))
  | _ => False) := rfl
@[simp] theorem pFor_eq : pFor pi tgt ps pd env = pi env fun it => forD it tgt ps pd env := rfl
@[simp] theorem forD_none {items : List D} {src : Bool} : forD ⟨items, none, src⟩ tgt ps pd env = loopD items tgt ps pd.nx pd.rt env := rfl
@[simp] theorem pRng1_eq : pRng1 p env kI = p env fun r => inK r fun n => (-4611686018427387904 ≤ n ∧ n < 4611686018427387904) ∧ kI ⟨rngL 0 n.toNat, none, false⟩ := rfl
@[simp] theorem pRng2_eq : pRng2 p q env kI = p env fun r => q env fun r' => in2 r r' fun m n => (-4611686018427387904 ≤ m ∧ m < 4611686018427387904 ∧ -4611686018427387904 ≤ n ∧ n < 4611686018427387904) ∧ kI ⟨rngL m (n - m).toNat, none, false⟩ := rfl
@[simp] theorem pSeqI_eq : pSeqI p env kI = p env fun r => optK (r.tr env) fun t => seqI r t kI := rfl
@[simp] theorem seqI_l : seqI (.va u) (.s (.node .lst ds)) kI = kI ⟨ds, none, true⟩ := rfl
@[simp] theorem seqI_t : seqI (.va u) (.s (.node .tup ds)) kI = kI ⟨ds, none, true⟩ := rfl
@[simp] theorem seqI_r : seqI (.va u) (.s (.node .ro ds)) kI = kI ⟨ds, none, true⟩ := rfl
@[simp] theorem seqI_n : seqI (.va u) (.node .lst ts) kI = kI ⟨ts.map T.er, none, true⟩ := rfl
@[simp] theorem seqI_b {π : List Nat} : seqI (.bo i π) (.node .lst ts) kI = (ts.all T.isS = true ∧ kI ⟨ts.map T.er, some i, true⟩) := rfl
@[simp] theorem setT_nm : setT (.nm i) d env = setN i d env := rfl
@[simp] theorem setT_tt {tgs : List Tgt} : setT (.tup tgs) (.node .tup ds) env = setTs tgs ds env := rfl
@[simp] theorem setT_tl {tgs : List Tgt} : setT (.tup tgs) (.node .lst ds) env = setTs tgs ds env := rfl
@[simp] theorem setTs_nil : setTs [] [] env = some env := rfl
@[simp] theorem setTs_cons {tgs : List Tgt} : setTs (tgt :: tgs) (d :: ds) env = (setT tgt d env).bind fun e => setTs tgs ds e := by
  show (match setT tgt d env with
    | some env1 => setTs tgs ds env1
    | none => none) = _
  cases setT tgt d env <;> rfl
@[simp] theorem pApp_eq : pApp p q pd env = p env fun ro => pathK ro env fun i π pin u u1 => lstK u1 fun ts => ts.length < 16777216 ∧ q env fun re => vaK re fun t => pd.nx (env.set i (.own pin (u.putAt π (.node .lst (ts ++ [t]))))) := by
  refine congrArg (p env) (funext fun r => propext ⟨fun ⟨i, π, pin, u, ts, e1, e2, e3, h⟩ => ⟨i, π, pin, u, _, e1, e2, e3, ts, rfl, h⟩, fun ⟨i, π, pin, u, u1, e1, e2, e3, ts, e4, h⟩ => ⟨i, π, pin, u, ts, e1, e2, by rw [e3, e4], h⟩⟩)
@[simp] theorem pAppM_eq : pAppM i pm pd env = ((ownK env[i]? fun pin t => lstK t fun u => True) ∧ pm env fun t env' => ownK env'[i]? fun pin u => lstK u fun ts => ts.length < 16777216 ∧ pd.nx (env'.set i (.own pin (.node .lst (ts ++ [t]))))) := by
  have h1 : (∃ pin u, env[i]? = some (.own pin (.node .lst u))) = (ownK env[i]? fun pin t => lstK t fun u => True) := propext ⟨fun ⟨pin, u, e⟩ => ⟨pin, _, e, u, rfl, trivial⟩, fun ⟨pin, t, e, u, e2, _⟩ => ⟨pin, u, by rw [e, e2]⟩⟩
  have h2 : ∀ (t : T) (env' : En), (∃ pin ts, env'[i]? = some (.own pin (.node .lst ts)) ∧ ts.length < 16777216 ∧ pd.nx (env'.set i (.own pin (.node .lst (ts ++ [t]))))) = (ownK env'[i]? fun pin u => lstK u fun ts => ts.length < 16777216 ∧ pd.nx (env'.set i (.own pin (.node .lst (ts ++ [t]))))) := fun t env' =>
    propext ⟨fun ⟨pin, ts, e, h⟩ => ⟨pin, _, e, ts, rfl, h⟩, fun ⟨pin, u, e, ts, e2, h⟩ => ⟨pin, ts, by rw [e, e2], h⟩⟩
  show ((∃ pin u, env[i]? = some (.own pin (.node .lst u))) ∧ pm env fun t env' => ∃ pin ts, env'[i]? = some (.own pin (.node .lst ts)) ∧ ts.length < 16777216 ∧ pd.nx (env'.set i (.own pin (.node .lst (ts ++ [t]))))) = _
  simp only [h1, h2]
@[simp] theorem pSetI_eq : pSetI pm p q pd env = pm env fun t env' => p env' fun ro => q env' fun ri => optK (ri.tr env') fun td => pathK ro env' fun i π pin u u1 => setSub u1 td.er t fun u2 => pd.nx (env'.set i (.own pin (u.putAt π u2))) := by
  refine congrArg (pm env) (funext fun t => funext fun e => congrArg (p e) (funext fun ro => congrArg (q e) (funext fun ri => propext ⟨fun ⟨i, π, pin, u, u1, td, e1, e2, e3, e4, h⟩ => ⟨td, e4, i, π, pin, u, u1, e1, e2, e3, h⟩, fun ⟨td, e4, i, π, pin, u, u1, e1, e2, e3, h⟩ => ⟨i, π, pin, u, u1, td, e1, e2, e3, e4, h⟩⟩)))
@[simp] theorem putAt_nil : T.putAt t [] u = u := by cases t <;> rfl
@[simp] theorem putAt_node {sh : Shape} {π : List Nat} : T.putAt (.node sh ts) (j :: π) u = .node sh (match ts[j]? with
    | some t => ts.set j (t.putAt π u)
    | none => ts) := rfl
@[simp] theorem setSub_l : setSub (.node .lst ts) (.int n) t kT = optK (ixN ts.length n) fun j => kT (.node .lst (ts.set j t)) :=
  propext ⟨fun ⟨m, j, e, h⟩ => by cases e; exact ⟨j, h⟩, fun ⟨j, h⟩ => ⟨n, j, rfl, h⟩⟩
@[simp] theorem wipeE_nil : wipeE env [] = env := rfl
@[simp] theorem wipeE_cons : wipeE env (i :: vs) = (wipeE env vs).set i .un := rfl
@[simp] theorem pYes_eq : pYes env kB = kB true := rfl
@[simp] theorem lcTurn_eq {yes : T → Prop} {no : Prop} : lcTurn tgt pb p env d yes no = optK (setT tgt d env) fun env2 => pb env2 fun b => if b = true then p env2 fun r => vaK r yes else no := rfl
@[simp] theorem rngL_length {lo : Int} {n : Nat} : (rngL lo n).length = n := rngL_len lo n
theorem rngL_some {lo : Int} {n k : Nat} {d : D} (h : (rngL lo n)[k]? = some d) : d = .int (lo + k) ∧ k < n := by
  have hk : k < n := by
    have := (List.getElem?_eq_some_iff.mp h).1
    rwa [rngL_len] at this
  rw [rngL_get lo n k hk] at h
  cases h
  exact ⟨rfl, hk⟩

/-! items -/
/-- the item at a place -/
def ixD (ds : List D) (n : Int) (P : Nat → D → Prop) : Prop := ∃ j c, ixN ds.length n = some j ∧ ds[j]? = some c ∧ P j c
def ixT (ts : List T) (n : Int) (P : Nat → T → Prop) : Prop := ∃ j c, ixN ts.length n = some j ∧ ts[j]? = some c ∧ P j c
theorem sub_map {kN : Nat → T → Prop} : (∃ i j c, D.int n = .int i ∧ ixN (ds.map T.s).length i = some j ∧ (ds.map T.s)[j]? = some c ∧ kN j c) = ixD ds n fun j c => kN j (.s c) := by
  refine propext ⟨fun ⟨i, j, c, e1, e2, e3, h⟩ => ?_, fun ⟨j, c, e2, e3, h⟩ => ⟨n, j, .s c, rfl, by rw [List.length_map]; exact e2, by rw [List.getElem?_map, e3]; rfl, h⟩⟩
  cases e1
  rw [List.getElem?_map] at e3
  obtain ⟨c', h1, rfl⟩ := Option.map_eq_some_iff.mp e3
  exact ⟨j, c', by rw [List.length_map] at e2; exact e2, h1, h⟩
@[simp] theorem subT_l {kN : Nat → T → Prop} : subT (.s (.node .lst ds)) (.int n) kN = ixD ds n fun j c => kN j (.s c) := sub_map
@[simp] theorem subT_t {kN : Nat → T → Prop} : subT (.s (.node .tup ds)) (.int n) kN = ixD ds n fun j c => kN j (.s c) := sub_map
@[simp] theorem subT_r {kN : Nat → T → Prop} : subT (.s (.node .ro ds)) (.int n) kN = ixD ds n fun j c => kN j (.s c) := sub_map
@[simp] theorem subT_n {kN : Nat → T → Prop} : subT (.node .lst ts) (.int n) kN = ixT ts n kN := by
  show (∃ i j c, D.int n = .int i ∧ ixN ts.length i = some j ∧ ts[j]? = some c ∧ kN j c) = _
  refine propext ⟨fun ⟨i, j, c, e1, h⟩ => ?_, fun ⟨j, c, h⟩ => ⟨n, j, c, rfl, h⟩⟩
  cases e1
  exact ⟨j, c, h⟩
theorem ixN_nat {l : Nat} {n : Int} (h0 : 0 ≤ n) (h1 : n < l) : ixN l n = some n.toNat := by
  unfold ixN
  rw [if_pos h0, if_pos h1]
theorem ixN_neg {l : Nat} {n : Int} (h0 : n < 0) (h1 : -(l : Int) ≤ n) : ixN l n = some (n + l).toNat := by
  unfold ixN
  rw [if_neg (by omega), if_pos h1]
/-- the n-th of whole numbers -/
def gi (ns : List Int) (n : Nat) : Int := ns.getD n 0
theorem gi_eq {ns : List Int} {n : Nat} (h : n < ns.length) : gi ns n = ns[n] := by
  unfold gi
  rw [List.getD_eq_getElem?_getD, List.getElem?_eq_getElem h]
  rfl
theorem gi_left {ns ms : List Int} {n : Nat} (h : n < ns.length) : gi (ns ++ ms) n = gi ns n := by
  rw [gi_eq h, gi_eq (by rw [List.length_append]; omega), List.getElem_append_left h]
theorem gi_right {ns ms : List Int} {n : Nat} (h : ns.length ≤ n) : gi (ns ++ ms) n = gi ms (n - ns.length) := by
  unfold gi
  rw [List.getD_eq_getElem?_getD, List.getElem?_append_right h, List.getD_eq_getElem?_getD]
theorem gi_mem {ns : List Int} {n : Nat} (h : n < ns.length) : gi ns n ∈ ns := by
  rw [gi_eq h]
  exact List.getElem_mem h
/-- digits: each below its size -/
def Dig (rs ss : List Int) : Prop := rs.length = ss.length ∧ ∀ i, i < ss.length → 0 ≤ gi rs i ∧ gi rs i < gi ss i
theorem Dig.nil : Dig [] [] := ⟨rfl, fun i h => by simp at h⟩
theorem Dig.snoc {rs ss : List Int} {r s : Int} (h : Dig rs ss) (h0 : 0 ≤ r) (h1 : r < s) : Dig (rs ++ [r]) (ss ++ [s]) := by
  obtain ⟨l, h⟩ := h
  refine ⟨by simp [l], fun i hi => ?_⟩
  rw [List.length_append, List.length_singleton] at hi
  by_cases c : i < ss.length
  · rw [gi_left (by omega), gi_left c]
    exact h i c
  · have e : i = ss.length := by omega
    subst e
    rw [gi_right (by omega), gi_right (by omega), l, Nat.sub_self]
    exact ⟨h0, h1⟩
theorem take_snoc {α : Type} {xs : List α} {k : Nat} (h : k < xs.length) : xs.take (k + 1) = xs.take k ++ [xs[k]] := by
  rw [List.take_succ, List.getElem?_eq_getElem h]
  rfl
@[simp] theorem fc_some {d : D} : fc (some d) = .own none (.s d) := rfl
@[simp] theorem fc_none : fc none = .un := rfl
@[simp] theorem ft_some {d : T} : ft (some d) = .own none d := rfl
@[simp] theorem ft_none : ft none = .un := rfl
/-- an item by its place -/
theorem ixD_at {P : Nat → D → Prop} (h0 : 0 ≤ n) (h1 : n < (ds.length : Int)) (q : ∀ (h : n.toNat < ds.length), P n.toNat ds[n.toNat]) : ixD ds n P :=
  have h : n.toNat < ds.length := by omega
  ⟨_, _, ixN_nat h0 h1, List.getElem?_eq_getElem h, q h⟩
theorem ixT_at {P : Nat → T → Prop} (h0 : 0 ≤ n) (h1 : n < (ts.length : Int)) (q : ∀ (h : n.toNat < ts.length), P n.toNat ts[n.toNat]) : ixT ts n P :=
  have h : n.toNat < ts.length := by omega
  ⟨_, _, ixN_nat h0 h1, List.getElem?_eq_getElem h, q h⟩
theorem ixD_int {ns : List Int} {P : Nat → D → Prop} (h0 : 0 ≤ n) (h1 : n < (ns.length : Int)) (q : P n.toNat (.int (gi ns n.toNat))) : ixD (ns.map D.int) n P := by
  have h : n.toNat < ns.length := by omega
  refine ⟨_, _, ixN_nat h0 (by rw [List.length_map]; exact h1), ?_, q⟩
  rw [List.getElem?_map, List.getElem?_eq_getElem h, gi_eq h]
  rfl
theorem ixT_int {ns : List Int} {P : Nat → T → Prop} (h0 : 0 ≤ n) (h1 : n < (ns.length : Int)) (q : P n.toNat (.s (.int (gi ns n.toNat)))) : ixT (ns.map fun n => T.s (.int n)) n P := by
  have h : n.toNat < ns.length := by omega
  refine ⟨_, _, ixN_nat h0 (by rw [List.length_map]; exact h1), ?_, q⟩
  rw [List.getElem?_map, List.getElem?_eq_getElem h, gi_eq h]
  rfl
/-- of a list that is a map -/
theorem ixD_map {α : Type} {f : α → D} {xs : List α} {P : Nat → D → Prop} (h0 : 0 ≤ n) (h1 : n < (xs.length : Int)) (q : ∀ (h : n.toNat < xs.length), P n.toNat (f xs[n.toNat])) : ixD (xs.map f) n P := by
  have h : n.toNat < xs.length := by omega
  refine ⟨_, _, ixN_nat h0 (by rw [List.length_map]; exact h1), ?_, q h⟩
  rw [List.getElem?_map, List.getElem?_eq_getElem h]
  rfl
theorem ixT_map {α : Type} {f : α → T} {xs : List α} {P : Nat → T → Prop} (h0 : 0 ≤ n) (h1 : n < (xs.length : Int)) (q : ∀ (h : n.toNat < xs.length), P n.toNat (f xs[n.toNat])) : ixT (xs.map f) n P := by
  have h : n.toNat < xs.length := by omega
  refine ⟨_, _, ixN_nat h0 (by rw [List.length_map]; exact h1), ?_, q h⟩
  rw [List.getElem?_map, List.getElem?_eq_getElem h]
  rfl
theorem map_some {α : Type} {f : α → D} {xs : List α} {k : Nat} {d : D} (h : (xs.map f)[k]? = some d) : ∃ (hk : k < xs.length), d = f xs[k] := by
  rw [List.getElem?_map] at h
  obtain ⟨c, h1, rfl⟩ := Option.map_eq_some_iff.mp h
  obtain ⟨h2, h3⟩ := List.getElem?_eq_some_iff.mp h1
  exact ⟨h2, by rw [h3]⟩
end

/-! ### lists or tuples -/
def sqS (b : Bool) : Shape := if b = true then .tup else .lst
section
variable {b : Bool} {ds : List D} {kD : D → Prop} {kT : T → Prop} {n : Int} {t u : T} {neg : Bool} {d : D} {kI : ItD → Prop} {env : En}
theorem sqS_t : sqS true = .tup := rfl
theorem sqS_f : sqS false = .lst := rfl
@[simp] theorem gLen_q : gLen [.node (sqS b) ds] kD = kD (.int ds.length) := by cases b <;> rfl
@[simp] theorem subT_q {kN : Nat → T → Prop} : subT (.s (.node (sqS b) ds)) (.int n) kN = ixD ds n fun j c => kN j (.s c) := by cases b <;> exact sub_map
@[simp] theorem seqI_q : seqI (.va u) (.s (.node (sqS b) ds)) kI = kI ⟨ds, none, true⟩ := by cases b <;> rfl
@[simp] theorem gIn_q {es : List D} : gIn neg d (.node (sqS b) es) kD = ((shp 64 d = true ∧ shpL 63 es = true) ∧ kD (.bl (neg' neg (inL d es)))) := by cases b <;> cases d <;> rfl
@[simp] theorem gList_q : gList (.s (.node (sqS b) ds)) kT = kT (.node .lst (ds.map T.s)) := by cases b <;> rfl
@[simp] theorem gTuple_q : gTuple (.s (.node (sqS b) ds)) kT = kT (.s (.node .tup ((ds.map T.s).map T.er))) := by cases b <;> rfl
@[simp] theorem setT_q {tgs : List Tgt} : setT (.tup tgs) (.node (sqS b) ds) env = setTs tgs ds env := by cases b <;> rfl
@[simp] theorem deq_int {m n : Int} : deq (.int m) (.int n) = decide (m = n) := by
  show PyData.eqv (.int m) (.int n) = _
  simp only [PyData.eqv]
  by_cases h : m = n
  · rw [decide_eq_true h, h]
    exact beq_self_eq_true _
  · rw [decide_eq_false h]
    exact beq_eq_false_iff_ne.mpr h
@[simp] theorem shp_int {k : Nat} : shp k (.int n) = true := by cases k <;> rfl
@[simp] theorem shp_non {k : Nat} : shp k .non = true := by cases k <;> rfl
@[simp] theorem shp_bl {k : Nat} {c : Bool} : shp k (.bl c) = true := by cases k <;> rfl
@[simp] theorem shpL_nil {k : Nat} : shpL k [] = true := by cases k <;> rfl
@[simp] theorem shpL_cons {k : Nat} : shpL k (d :: ds) = (shp k d && shpL k ds) := by cases k <;> rfl
@[simp] theorem shp_lst {k : Nat} : shp (k + 1) (.node .lst ds) = shpL k ds := rfl
@[simp] theorem shp_tup {k : Nat} : shp (k + 1) (.node .tup ds) = shpL k ds := rfl
@[simp] theorem shp_q {k : Nat} : shp (k + 1) (.node (sqS b) ds) = shpL k ds := by cases b <;> rfl
theorem shpL_map {α : Type} {f : α → D} {k : Nat} (h : ∀ a, shp k (f a) = true) : ∀ xs : List α, shpL k (xs.map f) = true
  | [] => by simp
  | x :: xs => by rw [List.map_cons, shpL_cons, h x, shpL_map h xs]; rfl
@[simp] theorem shpL_ints {k : Nat} {ns : List Int} : shpL k (ns.map D.int) = true := shpL_map (fun _ => shp_int) ns
@[simp] theorem any_ints {ns : List Int} : inL (.int n) (ns.map D.int) = decide (n ∈ ns) := by
  unfold inL
  rw [List.any_map]
  by_cases h : n ∈ ns
  · rw [decide_eq_true h, List.any_eq_true]
    exact ⟨n, h, by simp⟩
  · rw [decide_eq_false h, List.any_eq_false]
    intro x hx
    simp
    exact fun e => h (e ▸ hx)
end
/-- the n-th of lists -/
def ge {α : Type} (xs : List (List α)) (n : Nat) : List α := xs.getD n []
theorem ge_eq {α : Type} {xs : List (List α)} {n : Nat} (h : n < xs.length) : ge xs n = xs[n] := by
  unfold ge
  rw [List.getD_eq_getElem?_getD, List.getElem?_eq_getElem h]
  rfl
theorem ixD_lst {α : Type} {f : List α → D} {xs : List (List α)} {n : Int} {P : Nat → D → Prop} (h0 : 0 ≤ n) (h1 : n < (xs.length : Int)) (q : P n.toNat (f (ge xs n.toNat))) : ixD (xs.map f) n P :=
  ixD_map h0 h1 fun h => by rw [ge_eq h] at q; exact q

theorem ixD_lit {ds : List D} {n : Int} {c : D} {P : Nat → D → Prop} (h : 0 ≤ n ∧ n < (ds.length : Int)) (e : ds[n.toNat]? = some c) : ixD ds n P = P n.toNat c :=
  propext ⟨fun ⟨j, c', e1, e2, q⟩ => by rw [ixN_nat h.1 h.2] at e1; cases e1; rw [e] at e2; cases e2; exact q, fun q => ⟨_, _, ixN_nat h.1 h.2, e, q⟩⟩
theorem ixT_lit {ds : List T} {n : Int} {c : T} {P : Nat → T → Prop} (h : 0 ≤ n ∧ n < (ds.length : Int)) (e : ds[n.toNat]? = some c) : ixT ds n P = P n.toNat c :=
  propext ⟨fun ⟨j, c', e1, e2, q⟩ => by rw [ixN_nat h.1 h.2] at e1; cases e1; rw [e] at e2; cases e2; exact q, fun q => ⟨_, _, ixN_nat h.1 h.2, e, q⟩⟩
@[simp] theorem ixD_lit0 {x0 : D} {l : List D} {P : Nat → D → Prop} : ixD (x0 :: l) 0 P = P 0 x0 := ixD_lit (by simp <;> omega) rfl
@[simp] theorem ixT_lit0 {x0 : T} {l : List T} {P : Nat → T → Prop} : ixT (x0 :: l) 0 P = P 0 x0 := ixT_lit (by simp <;> omega) rfl
@[simp] theorem ixD_lit1 {x0 x1 : D} {l : List D} {P : Nat → D → Prop} : ixD (x0 :: x1 :: l) 1 P = P 1 x1 := ixD_lit (by simp <;> omega) rfl
@[simp] theorem ixT_lit1 {x0 x1 : T} {l : List T} {P : Nat → T → Prop} : ixT (x0 :: x1 :: l) 1 P = P 1 x1 := ixT_lit (by simp <;> omega) rfl
@[simp] theorem ixD_lit2 {x0 x1 x2 : D} {l : List D} {P : Nat → D → Prop} : ixD (x0 :: x1 :: x2 :: l) 2 P = P 2 x2 := ixD_lit (by simp <;> omega) rfl
@[simp] theorem ixT_lit2 {x0 x1 x2 : T} {l : List T} {P : Nat → T → Prop} : ixT (x0 :: x1 :: x2 :: l) 2 P = P 2 x2 := ixT_lit (by simp <;> omega) rfl
@[simp] theorem ixD_lit3 {x0 x1 x2 x3 : D} {l : List D} {P : Nat → D → Prop} : ixD (x0 :: x1 :: x2 :: x3 :: l) 3 P = P 3 x3 := ixD_lit (by simp <;> omega) rfl
@[simp] theorem ixT_lit3 {x0 x1 x2 x3 : T} {l : List T} {P : Nat → T → Prop} : ixT (x0 :: x1 :: x2 :: x3 :: l) 3 P = P 3 x3 := ixT_lit (by simp <;> omega) rfl
@[simp] theorem ixD_lit4 {x0 x1 x2 x3 x4 : D} {l : List D} {P : Nat → D → Prop} : ixD (x0 :: x1 :: x2 :: x3 :: x4 :: l) 4 P = P 4 x4 := ixD_lit (by simp <;> omega) rfl
@[simp] theorem ixT_lit4 {x0 x1 x2 x3 x4 : T} {l : List T} {P : Nat → T → Prop} : ixT (x0 :: x1 :: x2 :: x3 :: x4 :: l) 4 P = P 4 x4 := ixT_lit (by simp <;> omega) rfl
@[simp] theorem ixD_lit5 {x0 x1 x2 x3 x4 x5 : D} {l : List D} {P : Nat → D → Prop} : ixD (x0 :: x1 :: x2 :: x3 :: x4 :: x5 :: l) 5 P = P 5 x5 := ixD_lit (by simp <;> omega) rfl
@[simp] theorem ixT_lit5 {x0 x1 x2 x3 x4 x5 : T} {l : List T} {P : Nat → T → Prop} : ixT (x0 :: x1 :: x2 :: x3 :: x4 :: x5 :: l) 5 P = P 5 x5 := ixT_lit (by simp <;> omega) rfl
@[simp] theorem ixD_lit6 {x0 x1 x2 x3 x4 x5 x6 : D} {l : List D} {P : Nat → D → Prop} : ixD (x0 :: x1 :: x2 :: x3 :: x4 :: x5 :: x6 :: l) 6 P = P 6 x6 := ixD_lit (by simp <;> omega) rfl
@[simp] theorem ixT_lit6 {x0 x1 x2 x3 x4 x5 x6 : T} {l : List T} {P : Nat → T → Prop} : ixT (x0 :: x1 :: x2 :: x3 :: x4 :: x5 :: x6 :: l) 6 P = P 6 x6 := ixT_lit (by simp <;> omega) rfl
@[simp] theorem ixD_lit7 {x0 x1 x2 x3 x4 x5 x6 x7 : D} {l : List D} {P : Nat → D → Prop} : ixD (x0 :: x1 :: x2 :: x3 :: x4 :: x5 :: x6 :: x7 :: l) 7 P = P 7 x7 := ixD_lit (by simp <;> omega) rfl
@[simp] theorem ixT_lit7 {x0 x1 x2 x3 x4 x5 x6 x7 : T} {l : List T} {P : Nat → T → Prop} : ixT (x0 :: x1 :: x2 :: x3 :: x4 :: x5 :: x6 :: x7 :: l) 7 P = P 7 x7 := ixT_lit (by simp <;> omega) rfl
@[simp] theorem ixD_lit8 {x0 x1 x2 x3 x4 x5 x6 x7 x8 : D} {l : List D} {P : Nat → D → Prop} : ixD (x0 :: x1 :: x2 :: x3 :: x4 :: x5 :: x6 :: x7 :: x8 :: l) 8 P = P 8 x8 := ixD_lit (by simp <;> omega) rfl
@[simp] theorem ixT_lit8 {x0 x1 x2 x3 x4 x5 x6 x7 x8 : T} {l : List T} {P : Nat → T → Prop} : ixT (x0 :: x1 :: x2 :: x3 :: x4 :: x5 :: x6 :: x7 :: x8 :: l) 8 P = P 8 x8 := ixT_lit (by simp <;> omega) rfl
@[simp] theorem ixD_lit9 {x0 x1 x2 x3 x4 x5 x6 x7 x8 x9 : D} {l : List D} {P : Nat → D → Prop} : ixD (x0 :: x1 :: x2 :: x3 :: x4 :: x5 :: x6 :: x7 :: x8 :: x9 :: l) 9 P = P 9 x9 := ixD_lit (by simp <;> omega) rfl
@[simp] theorem ixT_lit9 {x0 x1 x2 x3 x4 x5 x6 x7 x8 x9 : T} {l : List T} {P : Nat → T → Prop} : ixT (x0 :: x1 :: x2 :: x3 :: x4 :: x5 :: x6 :: x7 :: x8 :: x9 :: l) 9 P = P 9 x9 := ixT_lit (by simp <;> omega) rfl
/-! ### comprehensions by what they give -/
def lcK (it : ItD) (tgt : Tgt) (pt : PB) (pe : PX) (vs : List Nat) (env : En) (k : R → Prop) : Prop := ∃ Pv : Nat → List T → Prop, (it.src = true ∨ it.items.length ≤ 16777216) ∧ Pv 0 [] ∧
  (∀ i d acc, it.items[i]? = some d → acc.length ≤ i → Pv i acc → lcTurn tgt pt pe (wipeE env vs) d (fun t => Pv (i + 1) (acc ++ [t])) (Pv (i + 1) acc)) ∧ ∀ acc, acc.length ≤ it.items.length → Pv it.items.length acc → k (.va (.node .lst acc))
@[simp] theorem pLc_eq {pi : PI'} {tgt : Tgt} {pt : PB} {pe : PX} {vs : List Nat} {env : En} {k : R → Prop} : pLc pi tgt pt pe vs env k = pi env fun it => lcK it tgt pt pe vs env k := rfl
section
variable {items : List D} {lock : Option Nat} {src : Bool} {tgt : Tgt} {pt : PB} {pe : PX} {vs : List Nat} {env : En} {k : R → Prop} {α β : Type}
theorem lc_inv (Pv : Nat → List T → Prop) (hb : src = true ∨ items.length ≤ 16777216) (h0 : Pv 0 []) (hs : ∀ i d acc, items[i]? = some d → i < items.length → acc.length ≤ i → Pv i acc → lcTurn tgt pt pe (wipeE env vs) d (fun t => Pv (i + 1) (acc ++ [t])) (Pv (i + 1) acc))
    (hd : ∀ acc, acc.length ≤ items.length → Pv items.length acc → k (.va (.node .lst acc))) : lcK ⟨items, lock, src⟩ tgt pt pe vs env k :=
  ⟨Pv, hb, h0, fun i d acc e l p => hs i d acc e (List.getElem?_eq_some_iff.mp e).1 l p, hd⟩
/-- kept where p, changed by g -/
theorem lc_filter {f : α → D} {xs : List α} (p : α → Bool) (g : α → T) (hb : src = true ∨ xs.length ≤ 16777216) (ht : ∀ i (h : i < xs.length) (Y : T → Prop) (N : Prop), (p xs[i] = true → Y (g xs[i])) → (p xs[i] = false → N) → lcTurn tgt pt pe (wipeE env vs) (f xs[i]) Y N)
    (hd : k (.va (.node .lst ((xs.filter p).map g)))) : lcK ⟨xs.map f, lock, src⟩ tgt pt pe vs env k := by
  refine lc_inv (fun i acc => acc = ((xs.take i).filter p).map g) (by rw [List.length_map]; exact hb) rfl (fun i d acc e hi l q => ?_) (fun acc _ q => ?_)
  · obtain ⟨hi', rfl⟩ := map_some e
    subst q
    refine ht i hi' _ _ (fun c => ?_) (fun c => ?_)
    · rw [take_snoc hi', List.filter_append, List.map_append]
      simp [c]
    · rw [take_snoc hi', List.filter_append, List.map_append]
      simp [c]
  · subst q
    rw [List.length_map, List.take_length]
    exact hd
theorem lc_map {f : α → D} {xs : List α} (g : α → T) (hb : src = true ∨ xs.length ≤ 16777216) (ht : ∀ i (h : i < xs.length) (Y : T → Prop) (N : Prop), Y (g xs[i]) → lcTurn tgt pt pe (wipeE env vs) (f xs[i]) Y N)
    (hd : k (.va (.node .lst (xs.map g)))) : lcK ⟨xs.map f, lock, src⟩ tgt pt pe vs env k :=
  lc_filter (fun _ => true) g hb (fun i h Y N a b => ht i h Y N (a rfl)) (by rw [List.filter_eq_self.mpr (fun _ _ => rfl)]; exact hd)
theorem rngL_map (lo : Int) (n : Nat) : rngL lo n = (List.range n).map fun i => D.int (lo + ((i : Nat) : Int)) := rfl
theorem lc_rng {lo : Int} {n : Nat} (g : Nat → T) (hb : n ≤ 16777216) (ht : ∀ i, i < n → ∀ (Y : T → Prop) (N : Prop), Y (g i) → lcTurn tgt pt pe (wipeE env vs) (.int (lo + (i : Int))) Y N)
    (hd : k (.va (.node .lst ((List.range n).map g)))) : lcK ⟨rngL lo n, lock, src⟩ tgt pt pe vs env k := by
  rw [rngL_map]
  refine lc_map g (.inr (by rw [List.length_range]; exact hb)) (fun i h Y N y => ?_) hd
  rw [List.length_range] at h
  simp only [List.getElem_range] at y ⊢
  exact ht i h Y N y
theorem lc_rngF {lo : Int} {n : Nat} (p : Nat → Bool) (g : Nat → T) (hb : n ≤ 16777216) (ht : ∀ i, i < n → ∀ (Y : T → Prop) (N : Prop), (p i = true → Y (g i)) → (p i = false → N) → lcTurn tgt pt pe (wipeE env vs) (.int (lo + (i : Int))) Y N)
    (hd : k (.va (.node .lst (((List.range n).filter p).map g)))) : lcK ⟨rngL lo n, lock, src⟩ tgt pt pe vs env k := by
  rw [rngL_map]
  refine lc_filter p g (.inr (by rw [List.length_range]; exact hb)) (fun i h Y N y z => ?_) hd
  rw [List.length_range] at h
  simp only [List.getElem_range] at y z ⊢
  exact ht i h Y N y z
/-- of things of a kind -/
theorem lc_all (mk : β → T) (P : β → Prop) (hb : src = true ∨ items.length ≤ 16777216) (ht : ∀ i d (Y : T → Prop) (N : Prop), items[i]? = some d → i < items.length → N → (∀ b, P b → Y (mk b)) → lcTurn tgt pt pe (wipeE env vs) d Y N)
    (hd : ∀ bs : List β, bs.length ≤ items.length → (∀ b ∈ bs, P b) → k (.va (.node .lst (bs.map mk)))) : lcK ⟨items, lock, src⟩ tgt pt pe vs env k := by
  refine lc_inv (fun i acc => ∃ bs : List β, acc = bs.map mk ∧ ∀ b ∈ bs, P b) hb ⟨[], rfl, fun _ z => nomatch z⟩ (fun i d acc e hi l ⟨bs, q, hP⟩ => ?_) (fun acc l ⟨bs, q, hP⟩ => ?_)
  · subst q
    refine ht i d _ _ e hi ⟨bs, rfl, hP⟩ fun b hb => ⟨bs ++ [b], by simp, fun x hx => ?_⟩
    rcases List.mem_append.mp hx with hx | hx
    · exact hP x hx
    · cases List.mem_singleton.mp hx
      exact hb
  · subst q
    rw [List.length_map] at l
    exact hd bs l hP
end

/-! ### parts of lists -/
theorem sIx_pos {n d : Nat} {i : Int} (h0 : 0 ≤ i) : HT.sIx n d (some i) = min i.toNat n := by
  show (if i < 0 then (i + (n : Int)).toNat else min i.toNat n) = _
  rw [if_neg (by omega)]
theorem cutL_to {α : Type} {xs : List α} {i : Int} (h0 : 0 ≤ i) : cutL xs none (some i) = xs.take i.toNat := by
  unfold cutL
  rw [sIx_pos h0]
  show (xs.drop 0).take (min i.toNat xs.length - 0) = _
  rw [List.drop_zero, Nat.sub_zero, List.take_eq_take_iff]
  omega
theorem cutL_from {α : Type} {xs : List α} {i : Int} (h0 : 0 ≤ i) : cutL xs (some i) none = xs.drop i.toNat := by
  unfold cutL
  rw [sIx_pos h0]
  show (xs.drop (min i.toNat xs.length)).take (xs.length - min i.toNat xs.length) = _
  by_cases h : i.toNat ≤ xs.length
  · rw [Nat.min_eq_left h, List.take_of_length_le (by rw [List.length_drop]; omega)]
  · rw [Nat.min_eq_right (by omega), List.drop_length, List.drop_eq_nil_of_le (by omega)]
    simp
theorem cutL_mid {α : Type} {xs : List α} {i j : Int} (h0 : 0 ≤ i) (h1 : 0 ≤ j) : cutL xs (some i) (some j) = (xs.drop i.toNat).take (j.toNat - i.toNat) := by
  unfold cutL
  rw [sIx_pos h0, sIx_pos h1]
  by_cases h : i.toNat ≤ xs.length
  · rw [Nat.min_eq_left h, List.take_eq_take_iff, List.length_drop]
    omega
  · rw [show min i.toNat xs.length = xs.length from by omega, List.drop_length, List.drop_eq_nil_of_le (by omega)]
    simp
theorem cutL_len {α : Type} (xs : List α) (lo hi : Option Int) : (cutL xs lo hi).length ≤ xs.length := by
  unfold cutL
  rw [List.length_take, List.length_drop]
  omega
theorem cutL_mem {α : Type} {xs : List α} {lo hi : Option Int} {x : α} (h : x ∈ cutL xs lo hi) : x ∈ xs := by
  unfold cutL at h
  exact List.mem_of_mem_drop (List.mem_of_mem_take h)

theorem ixD_last {ns : List Int} {P : Nat → D → Prop} (h : 0 < ns.length) (q : P (ns.length - 1) (.int (gi ns (ns.length - 1)))) : ixD (ns.map D.int) (-1) P := by
  refine ⟨ns.length - 1, _, ?_, ?_, q⟩
  · rw [ixN_neg (by omega) (by rw [List.length_map]; omega), List.length_map]
    congr 1
    omega
  · rw [List.getElem?_map, List.getElem?_eq_getElem (by omega), gi_eq (by omega)]
    rfl
theorem mem_take {α : Type} {xs : List α} {k : Nat} {x : α} (hk : k < xs.length) (h : x ∈ xs.take (k + 1)) : x ∈ xs.take k ∨ x = xs[k] := by
  rw [take_snoc hk] at h
  rcases List.mem_append.mp h with z | z
  · exact .inl z
  · exact .inr (List.mem_singleton.mp z)

@[simp] theorem any_ints_take {ns : List Int} {n : Int} {k : Nat} : inL (.int n) ((ns.map D.int).take k) = decide (n ∈ ns.take k) := by
  rw [← List.map_take, any_ints]
@[simp] theorem shpL_take {ns : List Int} {j k : Nat} : shpL k ((ns.map D.int).take j) = true := by
  rw [← List.map_take, shpL_ints]
theorem nodup_take (ns : List Int) : ns.Nodup ↔ ∀ j, j < ns.length → gi ns j ∉ ns.take j := by
  refine ⟨fun h j hj hm => ?_, fun h => ?_⟩
  · obtain ⟨i, hi, e⟩ := List.getElem_of_mem hm
    rw [List.length_take] at hi
    rw [List.getElem_take, gi_eq hj] at e
    exact List.pairwise_iff_getElem.mp h i j (by omega) hj (by omega) e
  · refine List.pairwise_iff_getElem.mpr fun i j hi hj hij e => h j hj ?_
    rw [gi_eq hj, ← e]
    have : i < (ns.take j).length := by rw [List.length_take]; omega
    have e2 : (ns.take j)[i] = ns[i] := List.getElem_take ..
    rw [← e2]
    exact List.getElem_mem this

mutual
theorem deq_refl : ∀ (d : D) (n : Nat), shp n d = true → deq d d = true
  | .non, _, _ => rfl
  | .bl b, _, _ => by simp [deq, D.py, PyData.eqv]
  | .int b, _, _ => by simp [deq, D.py, PyData.eqv]
  | .str b, _, _ => by simp [deq, D.py, PyData.eqv]
  | .node .lst ks, 0, h => by simp [shp] at h
  | .node .tup ks, 0, h => by simp [shp] at h
  | .node .lst ks, n + 1, h => by
    show PyData.eqvAll (pys ks) (pys ks) = true
    exact deqs_refl ks n (by simpa [shp] using h)
  | .node .tup ks, n + 1, h => by
    show PyData.eqvAll (pys ks) (pys ks) = true
    exact deqs_refl ks n (by simpa [shp] using h)
  | .node .ro ks, n, h => by simp [shp] at h
  | .node (.dK _) ks, n, h => by simp [shp] at h
  | .node (.dT _) ks, n, h => by simp [shp] at h
  | .node (.obj _ _) ks, n, h => by simp [shp] at h
theorem deqs_refl : ∀ (ds : List D) (n : Nat), shpL n ds = true → PyData.eqvAll (pys ds) (pys ds) = true
  | [], _, _ => rfl
  | d :: ds, n, h => by
    have h' : shp n d = true ∧ shpL n ds = true := by simpa [shpL] using h
    show (PyData.eqv d.py d.py && PyData.eqvAll (pys ds) (pys ds)) = true
    rw [show PyData.eqv d.py d.py = true from deq_refl d n h'.1, deqs_refl ds n h'.2]
    rfl
end
end PL

/-! The pure layer, part 17: a call that changes what one slot owns. -/
namespace PL
open PySem L2

/-- the trees that a call hands over: slot i's own tree once, as it stands; of all else what it is -/
def argsM (env : En) (i : Nat) (t : T) : List R → Option (List T × Bool)
  | [] => some ([], false)
  | .va u :: rs => match argsM env i t rs with
    | some x => some (.s u.er :: x.1, x.2)
    | none => none
  | .bo k π :: rs => if k = i then (match π, argsM env i t rs with
      | [], some (ts, false) => some (t :: ts, true)
      | _, _ => none)
    else match look env k π, argsM env i t rs with
      | some u, some x => some (.s u.er :: x.1, x.2)
      | _, _ => none
def othBo (i : Nat) : List R → Bool
  | [] => false
  | .bo k _ :: rs => (k != i) || othBo i rs
  | .va _ :: rs => othBo i rs
/-- what has become of slot i's tree -/
def outAt (i : Nat) : List R → List T → Option T
  | .bo k _ :: rs, o :: os => if k = i then some o else outAt i rs os
  | .va _ :: rs, _ :: os => outAt i rs os
  | _, _ => none
def pCallM (sp : FSp) (i : Nat) (ps : PAs) : PXM := fun env k => ps env fun rs => ∃ pin sh ks x, env[i]? = some (.own pin (.node sh ks)) ∧ argsM env i (.node sh ks) rs = some (x, true) ∧
  sp x fun u outs => ∃ t2, outAt i rs outs = some t2 ∧ (othBo i rs = true → immT u = true ∧ immT t2 = true) ∧ k u (env.set i (.own pin t2))
section
variable {K : PySem.W.Frag} {S B H S' B' H' S1 B1 H1 Sc Bc : Hp} {σ : L2.St} {env : En} {F G Gs Fi : List Addr} {i : Nat} {pin : Option V} {t : T}
/-- a borrowed tree of another slot -/
theorem bo_oth {k : Nat} {π : List Nat} {v : V} {u : T} (h : RR K S1 B1 H H1 σ v (.bo k π)) (sl : SlotsOk K S1 B1 H1 env σ Gs) (e : look env k π = some u) (es : Ex S1 Sc) (kk : ∀ c ov F, env[k]? = some c → σ[k]? = some ov → SlotOk K S1 B1 H1 c ov F → ∀ p ∈ F, Sc p = H1 p) : Rep K Sc v u.er := by
  obtain ⟨v0, e0, q⟩ := h
  have e' : (env[k]?).bind (fun c => c.tr.bind fun t => t.at π) = some u := e
  cases hc : env[k]? with
  | none => rw [hc] at e'; cases e'
  | some c =>
    rw [hc] at e'
    obtain ⟨ov, F, s1, s2, s3, _⟩ := sl.focus hc
    have kF := kk c ov F hc s1 s2
    rw [e0] at s1
    cases s1
    cases c with
    | un => cases e'
    | own pin w =>
      obtain ⟨v', z1, z2, o, z3⟩ := s2
      cases z1
      obtain ⟨w', F', a1, a2, a3⟩ := o.path (show w.at π = some u from e')
      cases a1.inj q
      exact a2.frz es fun p hp => kF p (a3 p hp)
    | lk F0 w =>
      obtain ⟨_, v', z1, o, z3⟩ := s2
      cases z1
      obtain ⟨w', F', a1, a2, a3⟩ := o.path (show w.at π = some u from e')
      cases a1.inj q
      exact a2.frz es fun p hp => kF p (a3 p hp)
theorem argsM_here {k : Nat} {u : T} {π : List Nat} {rs : List R} {x : List T × Bool} (e : argsM env k u (.bo k π :: rs) = some x) : π = [] ∧ ∃ ts, argsM env k u rs = some (ts, false) ∧ x = (u :: ts, true) := by
  unfold argsM at e
  rw [if_pos rfl] at e
  split at e
  · rename_i ts ey
    cases e
    exact ⟨rfl, ts, ey, rfl⟩
  · cases e
theorem argsM_oth {k : Nat} {u : T} {π : List Nat} {rs : List R} {x : List T × Bool} (n : ¬ k = i) (e : argsM env i u (.bo k π :: rs) = some x) : ∃ w y, look env k π = some w ∧ argsM env i u rs = some y ∧ x = (.s w.er :: y.1, y.2) := by
  unfold argsM at e
  rw [if_neg n] at e
  split at e
  · rename_i w y e1 e2
    cases e
    exact ⟨w, y, e1, e2, rfl⟩
  · cases e
theorem args_m {v0 : V} {sh : Shape} {ks : List T} (sl : SlotsOk K S1 B1 H1 env σ Gs) (ei : σ[i]? = some (some v0)) (o : Own K S1 H1 v0 (.node sh ks) Fi) (es : Ex S1 Sc) (bc : ∀ p ∈ Fi, Bc p = none) :
    ∀ {vs : List V} {rs : List R} {G : List Addr} {x : List T × Bool}, RRs K S1 B1 H H1 σ vs rs G → argsM env i (.node sh ks) rs = some x → (∀ p ∈ G, Sc p = H1 p) →
      (othBo i rs = true → ∀ k c ov F, k ≠ i → env[k]? = some c → σ[k]? = some ov → SlotOk K S1 B1 H1 c ov F → ∀ p ∈ F, Sc p = H1 p) → SlotsOk K Sc Bc H1 (argCells vs x.1) (vs.map some) (if x.2 = true then Fi else [])
  | _, _, _, x, .nil, e, _, _ => by
    cases e
    exact .nil
  | _, _, _, x, @RRs.consT _ _ _ _ _ _ v vs t rs F G ov q h d, e, k1, k2 => by
    have e' : (match argsM env i (.node sh ks) rs with
      | some x => some (.s t.er :: x.1, x.2)
      | none => none) = some x := e
    cases ey : argsM env i (.node sh ks) rs with
    | none => rw [ey] at e'; cases e'
    | some y =>
      rw [ey] at e'
      have r := args_m sl ei o es bc h ey (fun p hp => k1 p (List.mem_append_right _ hp)) k2
      cases e'
      exact .cons (F := []) ⟨v, rfl, (fun _ z => nomatch z), .s (ov.frz es fun p hp => k1 p (List.mem_append_left _ hp)), fun _ z => nomatch z⟩ r fun _ z => nomatch z
  | _, _, _, x, @RRs.consB _ _ _ _ _ _ v w0 vs k π rs G e0 a h, e, k1, k2 => by
    by_cases eki : k = i
    · rw [eki] at e e0 k2
      obtain ⟨rfl, ts, ey, rfl⟩ := argsM_here e
      have r : SlotsOk K Sc Bc H1 (argCells vs ts) (vs.map some) [] := args_m sl ei o es bc h ey k1 (fun z => k2 (by unfold othBo; rw [z]; simp))
      have e2 : some (some v0) = some (some w0) := ei.symm.trans e0
      cases e2
      have a : v0 = v := a
      subst a
      have := SlotsOk.cons (F := Fi) (c := argCell v0 (.node sh ks)) (ov := some v0) ⟨v0, rfl, (fun w e => Option.some.inj e), o.mono es fun _ _ => rfl, bc⟩ r fun _ _ z => nomatch z
      rw [List.append_nil] at this
      exact this
    · obtain ⟨u, y, eu, ey, rfl⟩ := argsM_oth eki e
      have hb : othBo i (.bo k π :: rs) = true := by unfold othBo; simp [eki]
      have r := args_m sl ei o es bc h ey k1 (fun _ => k2 hb)
      exact .cons (F := []) ⟨v, rfl, (fun _ z => nomatch z), .s (bo_oth (H := H) ⟨_, e0, a⟩ sl eu es fun c ov F ec es' so => k2 hb k c ov F eki ec es' so), fun _ z => nomatch z⟩ r fun _ z => nomatch z
/-- what slot i's tree has become stands at its place -/
theorem out_at : ∀ {vs : List V} {rs : List R} {G : List Addr} {x : List T × Bool} {u : T} {outs : List T} {t2 : T} {v0 : V} {E' : Hp} {Ga : List Addr}, RRs K S1 B1 H H1 σ vs rs G → argsM env i u rs = some x → σ[i]? = some (some v0) → outAt i rs outs = some t2 →
    SlotsOk K S' B' H' (argCells vs outs) (vs.map some) Ga → ∃ F2, Own K S' H' v0 t2 F2 ∧ (∀ p ∈ F2, B' p = none) ∧ ∀ p ∈ F2, p ∈ Ga
  | _, _, _, _, _, outs, _, _, _, _, .nil, _, _, ea, _ => by cases outs <;> cases ea
  | _, _, _, x, u, outs, t2, v0, E', Ga, @RRs.consT _ _ _ _ _ _ v vs t rs F G ov q h d, e, ei, ea, sl => by
    cases outs with
    | nil => cases ea
    | cons o os =>
      have ea : outAt i rs os = some t2 := ea
      cases ey : argsM env i u rs with
      | none =>
        unfold argsM at e
        rw [ey] at e
        cases e
      | some y =>
        cases sl with
        | cons s1 s2 s3 =>
          obtain ⟨F2, a, b, c⟩ := out_at (E' := E') h ey ei ea s2
          exact ⟨F2, a, b, fun p hp => List.mem_append_right _ (c p hp)⟩
  | _, _, _, x, u, outs, t2, v0, E', Ga, @RRs.consB _ _ _ _ _ _ v w0 vs k π rs G e0 a h, e, ei, ea, sl => by
    cases outs with
    | nil => cases ea
    | cons o os =>
      by_cases eki : k = i
      · have ea : (if k = i then some o else outAt i rs os) = some t2 := ea
        rw [if_pos eki] at ea
        cases ea
        rw [eki] at e e0
        obtain ⟨rfl, ts, ey, rfl⟩ := argsM_here e
        have e2 : some (some v0) = some (some w0) := ei.symm.trans e0
        cases e2
        have a : v0 = v := a
        subst a
        cases sl with
        | cons s1 s2 s3 =>
          obtain ⟨o1, nb⟩ := argCell_own s1 rfl
          exact ⟨_, o1, nb, fun p hp => List.mem_append_left _ hp⟩
      · have ea : (if k = i then some o else outAt i rs os) = some t2 := ea
        rw [if_neg eki] at ea
        obtain ⟨w, y, eu, ey, rfl⟩ := argsM_oth eki e
        cases sl with
        | cons s1 s2 s3 =>
          obtain ⟨F2, a', b, c⟩ := out_at (E' := E') h ey ei ea s2
          exact ⟨F2, a', b, fun p hp => List.mem_append_right _ (c p hp)⟩
end
end PL

/-! The pure layer, part 18: the rule for a call that changes what one slot owns. -/
namespace PL
open PySem L2
/-! footprints are determined -/
theorem ShO.vs_uniq {vs vs' : List V} {o : HO} : ∀ {sh : Shape}, ShO sh vs o → ShO sh vs' o → vs = vs'
  | sh, a, b => by rw [← a.kids, ← b.kids]
mutual
theorem Own.uniq {K : PySem.W.Frag} {S H : Hp} : ∀ {t : T} {v : V} {F F' : List Addr}, Own K S H v t F → Own K S H v t F' → F = F'
  | .s _, _, _, _, h, h' => by
    cases h with
    | s h => cases h' with
      | s h' => rfl
  | .node _ _, _, _, _, h, h' => by
    cases h with
    | node h1 h2 h3 h4 h5 => cases h' with
      | node g1 g2 g3 g4 g5 =>
        rw [h1] at g1
        cases g1
        have e := h2.vs_uniq g2
        subst e
        rw [OwnL.uniq h4 g4]
theorem OwnL.uniq {K : PySem.W.Frag} {S H : Hp} : ∀ {ts : List T} {vs : List V} {F F' : List Addr}, OwnL K S H vs ts F → OwnL K S H vs ts F' → F = F'
  | [], _, _, _, h, h' => by cases h; cases h'; rfl
  | t :: ts, _, _, _, h, h' => by
    cases h with
    | cons h1 h2 h3 => cases h' with
      | cons g1 g2 g3 => rw [Own.uniq h1 g1, OwnL.uniq h2 g2]
end
theorem SlotOk.uniq {K : PySem.W.Frag} {S B H : Hp} {c : Cell} {ov : Option V} {F F' : List Addr} (h : SlotOk K S B H c ov F) (h' : SlotOk K S B H c ov F') : F = F' := by
  cases c with
  | un => exact Eq.trans h (Eq.symm h')
  | own pin t =>
    obtain ⟨v, e, _, o, _⟩ := h
    obtain ⟨v', e', _, o', _⟩ := h'
    subst e
    cases e'
    exact o.uniq o'
  | lk F0 t => exact h.1.trans h'.1.symm
/-- two slots' footprints are apart -/
theorem SlotsOk.apart {K : PySem.W.Frag} {S B H : Hp} : ∀ {env : En} {σ : L2.St} {G : List Addr} {i k : Nat} {c d : Cell} {ov ow : Option V} {F F' : List Addr}, SlotsOk K S B H env σ G → i ≠ k → env[i]? = some c → env[k]? = some d → σ[i]? = some ov → σ[k]? = some ow → SlotOk K S B H c ov F → SlotOk K S B H d ow F' → ∀ p ∈ F, p ∉ F'
  | _, _, _, _, _, _, _, _, _, _, _, .nil, _, e, _, _, _, _, _ => by simp at e
  | _, _, _, i, k, c, d, ov, ow, F, F', @SlotsOk.cons _ _ _ _ c0 ov0 cs σ F0 G h1 h2 h3, n, e1, e2, e3, e4, s1, s2 => by
    cases i with
    | zero =>
      cases k with
      | zero => exact absurd rfl n
      | succ k =>
        simp at e1 e2 e3 e4
        subst e1; subst e3
        cases h1.uniq s1
        obtain ⟨ow', F2, q1, q2, q3, _⟩ := h2.focus e2
        rw [e4] at q1
        cases q1
        cases q2.uniq s2
        exact fun p hp hq => h3 p hp (q3 p hq)
    | succ i =>
      cases k with
      | zero =>
        simp at e1 e2 e3 e4
        subst e2; subst e4
        cases h1.uniq s2
        obtain ⟨ow', F2, q1, q2, q3, _⟩ := h2.focus e1
        rw [e3] at q1
        cases q1
        cases q2.uniq s1
        exact fun p hp hq => h3 p hq (q3 p hp)
      | succ k =>
        simp at e1 e2 e3 e4
        exact SlotsOk.apart h2 (fun z => n (by rw [z])) e1 e2 e3 e4 s1 s2
section
variable {X : Cx} {pa : PAs} {E : XK} {sp : FSp} {i : Nat}
theorem argsM_len {env : En} {u : T} {K : PySem.W.Frag} {S1 B1 H H1 : Hp} {σ : L2.St} : ∀ {vs : List V} {rs : List R} {G : List Addr} {x : List T × Bool}, RRs K S1 B1 H H1 σ vs rs G → argsM env i u rs = some x → vs.length = x.1.length
  | _, _, _, _, .nil, e => by cases e; rfl
  | _, _, _, x, @RRs.consT _ _ _ _ _ _ v vs t rs F G ov q h d, e => by
    cases ey : argsM env i u rs with
    | none =>
      unfold argsM at e
      rw [ey] at e
      cases e
    | some y =>
      have e' : (match argsM env i u rs with
        | some x => some (.s t.er :: x.1, x.2)
        | none => none) = some x := e
      rw [ey] at e'
      have r := argsM_len h ey
      cases e'
      rw [List.length_cons, List.length_cons, r]
  | _, _, _, x, @RRs.consB _ _ _ _ _ _ v w0 vs k π rs G e0 a h, e => by
    by_cases eki : k = i
    · rw [eki] at e
      obtain ⟨rfl, ts, ey, rfl⟩ := argsM_here e
      have r := argsM_len h ey
      rw [List.length_cons, List.length_cons, r]
    · obtain ⟨u', y, eu, ey, rfl⟩ := argsM_oth eki e
      have r := argsM_len h ey
      rw [List.length_cons, List.length_cons, r]
theorem callM (mf : MonoF sp) (h : MonoA pa) {σ : L2.St} {H : Hp} {Q : VK} (q : tDM X.K (pCallM sp i pa) σ H Q) : tCall (spF X.K sp) [] E (tDA X.K pa) σ H Q := by
  obtain ⟨S, B, env, sr, q⟩ := q
  refine ⟨S, B, env, sr, h env (fun rs ⟨pin, sh, ks, x, ec, ea, q⟩ S1 B1 vs H1 G g1 r1 => ?_) q⟩
  show spF X.K sp (vs ++ []) H1 Q E
  rw [List.append_nil]
  obtain ⟨Gs, sl0⟩ := sr.sl
  have sl1 : SlotsOk X.K S1 B1 H1 env σ Gs := sl0.mono g1.e.s fun p hp => by
    obtain ⟨ob, e, _⟩ := sl0.ne p hp
    exact g1.keeps e
  have sh1 : Ex S1 H1 := g1.sb.trans g1.bh
  have gN : ∀ p ∈ G, p ∉ Gs := fun p hp hq => by
    obtain ⟨ob, e, _⟩ := sl0.ne p hq
    obtain ⟨_, _, e2, _⟩ := r1.dom p hp
    rw [e] at e2
    cases e2
  obtain ⟨ov, Fi, s1, s2, s3, s4⟩ := sl1.focus ec
  obtain ⟨v0, rfl, hpin, o, nb⟩ := s2
  generalize hFb : (if othBo i rs = true then Gs.filter (fun p => decide (p ∉ Fi)) else []) = Fb
  have fbS : ∀ p ∈ Fb, p ∈ Gs ∧ p ∉ Fi := fun p hp => by
    rw [← hFb] at hp
    split at hp
    · have := List.mem_filter.mp hp
      exact ⟨this.1, by simpa using this.2⟩
    · cases hp
  let Bc : Hp := fun p => if p ∈ Fi then none else H1 p
  have bcI : ∀ {p}, p ∈ Fi → Bc p = none := fun h => if_pos h
  have bcO : ∀ {p}, p ∉ Fi → Bc p = H1 p := fun h => if_neg h
  have scB : Ex (joinF S1 H1 (G ++ Fb)) Bc := fun p u e => by
    by_cases hf : p ∈ Fi
    · exfalso
      rw [joinF_out (fun z => (List.mem_append.mp z).elim (fun y => gN p y (s3 p hf)) fun y => (fbS p y).2 hf)] at e
      have := g1.sb p u e
      rw [nb p hf] at this
      cases this
    · rw [bcO hf]
      exact joinF_ex sh1 p u e
  have bcH : Ex Bc H1 := fun p u e => by
    by_cases hf : p ∈ Fi
    · rw [bcI hf] at e
      cases e
    · rwa [bcO hf] at e
  have fbIn : othBo i rs = true → ∀ p ∈ Gs, p ∉ Fi → p ∈ Fb := fun hb p hp hn => by
    rw [← hFb, if_pos hb]
    exact List.mem_filter.mpr ⟨hp, by simpa using hn⟩
  have ec1 := ec
  have k2 : othBo i rs = true → ∀ k c ov F, k ≠ i → env[k]? = some c → σ[k]? = some ov → SlotOk X.K S1 B1 H1 c ov F → ∀ p ∈ F, joinF S1 H1 (G ++ Fb) p = H1 p := fun hb k c ov F hk e1 e2 so p hp => by
    obtain ⟨ov', F2, q1, q2, q3, _⟩ := sl1.focus e1
    rw [e2] at q1
    cases q1
    cases q2.uniq so
    refine joinF_in (List.mem_append_right _ (fbIn hb p (q3 p hp) ?_))
    exact sl1.apart hk e1 ec e2 s1 so ⟨v0, rfl, hpin, o, nb⟩ p hp
  have ar := args_m (Sc := joinF S1 H1 (G ++ Fb)) (Bc := Bc) sl1 s1 o (ex_joinF sh1) (fun p hp => bcI hp) r1 ea (fun p hp => joinF_in (List.mem_append_left _ hp)) k2
  refine ⟨joinF S1 H1 (G ++ Fb), Bc, x, ⟨scB, bcH, _, ar⟩, argsM_len r1 ea, mf _ (fun u outs ⟨t2, eo, im, q⟩ S' B' v H' ev sr' => ?_) q⟩
  -- behind the call
  have fb0 : ∀ p ∈ Gs, S1 p = none := SlotsOk.out g1.sb sl1
  have fbM : ∀ p ∈ Gs, ∃ o, H1 p = some o ∧ Mut (some o) := fun p hp => sl1.ne p hp
  have hG : ∀ p ∈ G, H p = none ∧ B1 p = none ∧ H1 p ≠ none := fun p hp => by
    obtain ⟨o, a, b, c⟩ := r1.dom p hp
    exact ⟨b, c, by rw [a]; exact fun z => nomatch z⟩
  have gFi : ∀ p ∈ G, p ∉ Fi := fun p hp z => gN p hp (s3 p z)
  have out : ∀ p u, p ∉ Fi → H1 p = some u → B' p = some u ∧ H' p = some u := fun p u hp e => by
    have : B' p = some u := ev.b p u (by rw [bcO hp]; exact e)
    exact ⟨this, sr'.bh p u this⟩
  let S2 : Hp := fun p => if p ∈ Fb then none else S' p
  have S2in : ∀ {p}, p ∈ Fb → S2 p = none := fun h => if_pos h
  have S2out : ∀ {p}, p ∉ Fb → S2 p = S' p := fun h => if_neg h
  have S2le : Ex S2 S' := fun p o q => by
    by_cases hp : p ∈ Fb
    · rw [S2in hp] at q; cases q
    · rwa [S2out hp] at q
  let B2 : Hp := fun p => match S2 p with
    | some o => some o
    | none => joinF B1 H1 G p
  have B2s : ∀ {p o}, S2 p = some o → B2 p = some o := fun {p o} h => by
    show (match S2 p with
      | some o => some o
      | none => joinF B1 H1 G p) = some o
    rw [h]
  have B2n : ∀ {p}, S2 p = none → B2 p = joinF B1 H1 G p := fun {p} h => by
    show (match S2 p with
      | some o => some o
      | none => joinF B1 H1 G p) = _
    rw [h]
  have b1Fi : ∀ {p o}, B1 p = some o → p ∉ Fi := fun {p o} e z => by rw [nb p z] at e; cases e
  have S12 : Ex S1 S2 := fun p o e => by
    have n1 : p ∉ Fb := fun z => by rw [fb0 p (fbS p z).1] at e; cases e
    have n2 : p ∉ G := fun z => by
      have := g1.sb p o e
      rw [(hG p z).2.1] at this
      cases this
    rw [S2out n1]
    exact ev.s p o (by rw [joinF_out (by simp [n1, n2])]; exact e)
  have gsS : ∀ p ∈ Gs, p ∉ Fi → S2 p = none := fun p hp hn => by
    by_cases hf : p ∈ Fb
    · exact S2in hf
    · rw [S2out hf]
      refine Classical.byContradiction fun z => ?_
      have : Bc p = none := ev.n p z (by rw [joinF_out (by simp [hf]; exact fun y => gN p y hp)]; exact fb0 p hp)
      rw [bcO hn] at this
      obtain ⟨_, e, _⟩ := fbM p hp
      rw [e] at this
      cases this
  have nb2 : ∀ p, B' p = none → B2 p = none := fun p hp => by
    have h1 : S' p = none := ex_none sr'.sb hp
    have h2 : S2 p = none := Classical.byContradiction fun z => by
      cases e : S2 p with
      | none => exact z e
      | some o => have := S2le p o e; rw [h1] at this; cases this
    have n2 : p ∉ G := fun z => by
      have h3 : joinF S1 H1 (G ++ Fb) p = H1 p := joinF_in (List.mem_append_left _ z)
      cases e : H1 p with
      | none => exact (hG p z).2.2 e
      | some o =>
        rw [e] at h3
        have := ev.s p o h3
        rw [h1] at this
        cases this
    rw [B2n h2, joinF_out n2]
    cases e : B1 p with
    | none => rfl
    | some o =>
      have := (out p o (b1Fi e) (g1.bh p o e)).1
      rw [hp] at this
      cases this
  have tupS : ∀ p ws, S' p = some (.tup ws) → S2 p = some (.tup ws) := fun p ws e => by
    by_cases hf : p ∈ Fb
    · exfalso
      obtain ⟨u0, e0, mu⟩ := fbM p (fbS p hf).1
      have := (out p u0 (fbS p hf).2 e0).2
      have e1 := sr'.bh p _ (sr'.sb p _ e)
      rw [e1] at this
      cases this
      exact mu
    · rw [S2out hf]
      exact e
  have S2eq : ¬ othBo i rs = true → S2 = S' := fun h => by
    funext p
    have : Fb = [] := by rw [← hFb, if_neg h]
    exact S2out (by rw [this]; exact fun z => nomatch z)
  have im2 : ∀ {t : T} {w : V} {F : List Addr}, (othBo i rs = true → immT t = true) → Own X.K S' H' w t F → Own X.K S2 H' w t F := fun {t w F} hi o => by
    by_cases hb : othBo i rs = true
    · exact o.imm tupS (hi hb)
    · rw [S2eq hb]
      exact o
  have evo : Evo S B S2 B2 := by
    refine ⟨fun p o e => S12 p o (g1.e.s p o e), fun p o e => ?_, fun p a b => ?_⟩
    · have e1 := g1.e.b p o e
      cases e2 : S2 p with
      | some o' =>
        have h1 := (out p o (b1Fi e1) (g1.bh p o e1)).2
        have h2 := sr'.bh p _ (sr'.sb p _ (S2le p o' e2))
        rw [h1] at h2
        cases h2
        exact B2s e2
      | none =>
        rw [B2n e2]
        have : p ∉ G := fun z => by rw [(hG p z).2.1] at e1; cases e1
        rw [joinF_out this]
        exact e1
    · have hf : p ∉ Fb := fun z => a (S2in z)
      rw [S2out hf] at a
      by_cases hg : p ∈ G
      · exact ex_none g1.e.b (hG p hg).2.1
      · by_cases h1 : S1 p = none
        · have := ev.n p a (by rw [joinF_out (by simp [hg, hf])]; exact h1)
          by_cases hi : p ∈ Fi
          · exact ex_none g1.e.b (nb p hi)
          · rw [bcO hi] at this
            exact ex_none g1.e.b (ex_none g1.bh this)
        · exact g1.e.n p h1 b
  have sb2 : Ex S2 B2 := fun p o e => B2s e
  have bh2 : Ex B2 H' := fun p o e => by
    cases e2 : S2 p with
    | some o' =>
      rw [B2s e2] at e
      cases e
      exact sr'.bh p _ (sr'.sb p _ (S2le p _ e2))
    | none =>
      rw [B2n e2] at e
      by_cases hg : p ∈ G
      · rw [joinF_in hg] at e
        exact (out p o (gFi p hg) e).2
      · rw [joinF_out hg] at e
        exact (out p o (b1Fi e) (g1.bh p o e)).2
  obtain ⟨G0, sl0⟩ := sr'.sl
  cases sl0 with
  | @cons _ _ _ _ F Ga s1' s2' s3' =>
    obtain ⟨v', z1, _, ou, nbu⟩ := s1'
    cases z1
    obtain ⟨F2, o2, nb2', sub2⟩ := out_at (E' := H') r1 ea s1 eo s2'
    have keep : ∀ p ∈ Gs, p ∉ Fi → Keeps S1 B1 H1 S2 B2 H' p := fun p hp hn => by
      obtain ⟨u0, e0, _⟩ := fbM p hp
      have h1 := (out p u0 hn e0).2
      have h2 := gsS p hp hn
      have h3 : B2 p = B1 p := by rw [B2n h2, joinF_out (fun y => gN p y hp)]
      exact ⟨by rw [h1, e0], fun z => by rw [h3]; exact z, fun z _ => ⟨by rw [h3, z, e0, h1], h2⟩⟩
    have inGs : ∀ {p}, p ∈ Gs → p ∉ Fi → B' p ≠ none := fun {p} hp hn z => by
      obtain ⟨u0, e0, _⟩ := fbM p hp
      rw [(out p u0 hn e0).1] at z
      cases z
    obtain ⟨G3, sl3, g3⟩ := s4 (S' := S2) (B' := B2) (H' := H') (c' := .own pin t2) (ov' := some v0) (F' := F2) S12 keep ⟨v0, rfl, hpin, im2 (fun hb => (im hb).2) o2, fun p hp => nb2 p (nb2' p hp)⟩ fun p hp hq => Classical.byContradiction fun z => inGs hq z (nb2' p hp)
    have eσ : σ.set i (some v0) = σ := by
      apply List.ext_getElem?
      intro k
      by_cases hk : i = k
      · subst hk
        have hl := (List.getElem?_eq_some_iff.mp s1).1
        rw [List.getElem?_set_self hl, s1]
      · rw [List.getElem?_set_ne hk]
    rw [eσ] at sl3
    refine q S2 B2 v H' evo ⟨sb2, bh2, _, .cons (F := F) ⟨v, rfl, (fun _ z => nomatch z), im2 (fun hb => (im hb).1) ou, fun p hp => nb2 p (nbu p hp)⟩ sl3 fun p hp hq => ?_⟩
    rcases g3 p hq with z | ⟨z1, z2⟩
    · exact s3' p hp (sub2 p z)
    · exact inGs z1 z2 (nbu p hp)
theorem callM_mono (mf : MonoF sp) (h : MonoA pa) : MonoM (pCallM sp i pa) := fun env P Q f q => h env (fun rs ⟨pin, sh, ks, x, e1, e2, q⟩ => ⟨pin, sh, ks, x, e1, e2, mf _ (fun u outs ⟨t2, e3, im, q⟩ => ⟨t2, e3, im, f _ _ q⟩) q⟩) q
theorem dm_callM {CX : CXT} {k : Nat} {f : Addr} {fd : FuncData} {ps : List Str} {x : Str} {p pos : Pos} {e : Expr} {es : List Expr} (i : Nat) (F : FnOk X.prog X.w X.K X.mg X.base CX k f fd ps (spF X.K sp)) (mf : MonoF sp) (hr : Room k X.A) (hg : Gl X x) (hm : X.mg x = some (.ref f)) (hk : PySem.W.keepIn X.K (.ref f) = true) (hb : Binds X.K fd ps []) (hx : Passes CX X E) (h : PDA X (e :: es) pa)
    (hdb : (x == ("__debug__" : Str)) = false := by decide) (he : starEach (e :: es) X.env = (false, eval e X.env) :: starEach es X.env := by rfl) (hpl : (backTo pos (starEach es X.env)).any (·.1) = false := by rfl) : PDM X (.Call (.Name x p) (e :: es) [] pos) (pCallM sp i pa) :=
  ⟨PE.weak (pe_call (E := E) F hr hg hm hk hb .nil hx h.run hdb he hpl) fun σ H Q q => callM mf h.mono q, callM_mono mf h.mono⟩
end
end PL

/-! The pure layer, part 19: a walk over what a call gives that changes a slot. -/
namespace PL
open PySem L2
/-- the items of a list, a tuple -/
def itemsOf : D → Option (List D)
  | .node .lst ds => some ds
  | .node .tup ds => some ds
  | _ => none
def pForM (pm : PXM) (tgt : Tgt) (body : PSt) : PSt := fun pd env => pm env fun t env' => ∃ items, itemsOf t.er = some items ∧ loopD items tgt body pd.nx pd.rt env'
section
variable {X : Cx} {tg iter : Expr} {body : List Stmt} {pm : PXM} {tgt : Tgt} {p : PSt} {pos : Pos}
theorem forM_read {K : PySem.W.Frag} {D : Ends} {σ : L2.St} {H : Hp} (mm : MonoM pm) (h : tSd K (pForM pm tgt p) D σ H) : tFor (iSeq K (tDM K pm)) (tDG K tgt) (tSd K p) D σ H := by
  obtain ⟨S, B, env, pd, sr, h, br⟩ := h
  refine ⟨S, B, env, sr, mm env (fun t env' ⟨items, hi, hl⟩ S1 B1 v H1 ev sr1 => ?_) h⟩
  obtain ⟨S2, B2, ev2, sr2⟩ := sr1.frz (i := 0) (t := t) rfl
  have sr2 : SR K S2 B2 H1 (some v :: σ) (.own none (.s t.er) :: env') := sr2
  have rp := sr2.scal
  have sr3 : SR K S2 B2 H1 σ env' := sr2.uncons
  have br2 : Bridge K S2 B2 { nx := pd.nx, rt := pd.rt } D := ⟨(br.evo (ev.trans ev2)).nx, fun _ _ _ _ _ _ _ z => False.elim z, fun _ _ _ _ _ _ _ z => False.elim z, (br.evo (ev.trans ev2)).rt⟩
  generalize t.er = d at hi rp
  cases d with
  | node sh ds =>
    cases rp with
    | @node a _ vs _ h1 h2 h3 =>
      cases sh with
      | lst =>
        cases hi
        have q : SqL K H1 a vs := SqL.of (sr3.bh _ _ (sr3.sb _ _ h1))
        refine ⟨a, rfl, .inl ⟨⟨vs, q⟩, ?_⟩⟩
        exact for_core (S1 := S2) (B1 := B2) (jok_list (Z := B2) (S := S2) (SqL.of (sr3.sb _ _ h1)) h3) sr3 hl br2
      | tup =>
        cases hi
        have q : SqT K H1 a vs := SqT.of (sr3.bh _ _ (sr3.sb _ _ h1))
        refine ⟨a, rfl, .inr ⟨⟨vs, q⟩, ?_⟩⟩
        exact for_core (S1 := S2) (B1 := B2) (jok_tup (Z := B2) (S := S2) (SqT.of (sr3.sb _ _ h1)) h3) sr3 hl br2
      | _ => cases hi
  | _ => cases hi
theorem ds_forM (hp : PassesOwn (model X.prog X.w) X.A X.env X.xe) (hc : X.calm = true) (hi : PDM X iter pm) (hg : PDG X tg tgt) (hb : PDSs X body p) (hs : ∀ x, foldedSetIterable iter X.env x = pure x := by intro _; rfl) : PDS X (.For tg iter body [] pos) (pForM pm tgt p) :=
  ⟨PS.weak (ps_for hp hc (pi_seq hi.run) hg.run hb.run hs) fun _ _ _ h => forM_read hi.mono h, fun env le h => hi.mono env (fun t e ⟨items, e1, h⟩ => ⟨items, e1, loopD_mono hb.mono le.nx le.rt h⟩) h⟩
end
end PL

/-! The pure layer, part 20: sorted, of any data that can be ordered; sorted of a dict of ints. -/
namespace PL
open PySem L2 PyProof.Rows PySem.W
/-- sorted(xs), xs a list of data -/
def rSortD (K : PySem.W.Frag) : List V → Hp → VK → Prop := fun vs H Q => ∃ (a : Addr) (zs : List (V × PyData)), vs = [V.ref a] ∧ SqL K H a (zs.map (·.1)) ∧ (∀ z ∈ zs, Dp K H z.1 z.2) ∧ AllAlike (zs.map (·.2)) ∧ Sortable (zs.map (·.2)) ∧ (∀ z ∈ zs, z.2.depth ≤ 64) ∧
  ∀ p, H p = none → Q (.ref p) (upd H p (.lst ((zs.mergeSort (dataLe false (·.2))).map (·.1))))
theorem each_vals : ∀ {zs : List (V × PyData)} {us : List Value}, Vals (zs.map (·.1)) us → EachIs (fun (u : Value) (z : V × PyData) => RelV z.1 u) us zs
  | [], _, h => by cases h; exact .nil
  | z :: zs, _, h => by
    cases h with
    | cons h1 h2 => exact .cons h1 (each_vals h2)
theorem vals_each : ∀ {zs : List (V × PyData)} {us : List Value}, EachIs (fun (u : Value) (z : V × PyData) => RelV z.1 u) us zs → Vals (zs.map (·.1)) us
  | _, _, .nil => .nil
  | _, _, .cons h1 h2 => .cons h1 (vals_each h2)
section
variable {X : Cx}
theorem each_reads {pins : List (Addr × Obj)} {σ : L2.St} {H : Hp} {s : Shared} (I : Inv X pins σ H s) : ∀ {zs : List (V × PyData)} {us : List Value}, Vals (zs.map (·.1)) us → (∀ z ∈ zs, Dp X.K H z.1 z.2) → EachIs (fun (u : Value) (z : V × PyData) => ∃ as, Reads s.heap u z.2 as) us zs
  | [], _, h, _ => by cases h; exact .nil
  | z :: zs, _, h, q => by
    cases h with
    | cons h1 h2 => exact .cons (Dp.reads I _ _ _ (q z (.head _)) h1) (each_reads I h2 fun y hy => q y (.tail _ hy))
theorem cr_sortD (hu : X.A.units + 66 < cLine) : CallR X (.builtin "sorted") (rSortD X.K) := by
  intro pins s σ H vs us Q I r h
  obtain ⟨a, zs, rfl, hs, hd, hal, hk, hdp, q⟩ := h
  obtain ⟨its, rv, hl, hz⟩ := I.list hs
  rw [Vals.ref1 r]
  have hlz : zs.length ≤ sizeLine := by rwa [List.length_map] at hz
  refine sorted_data (bs := zs) (enc := fun z => z.2) (R := fun (u : Value) (z : V × PyData) => RelV z.1 u) hl.isList (each_vals rv) (each_reads I rv hd) hal hk hlz (fun b hb => by have := hdp b hb; omega) fun out hlen he => ?_
  obtain ⟨ep, he'⟩ := PyProof.Rows.sortedAll_at s.heap its out.toArray
  have kv := vals_each he
  have hlen' : ((zs.mergeSort (dataLe false (fun z => z.2))).map (·.1)).length ≤ sizeLine := by
    rw [List.length_map, List.length_mergeSort]
    exact hlz
  exact ⟨.ref _, upd H (s.heap.objs.size + 1) (.lst _), I.laid (t' := s.toks) (fun _ _ => PyProof.Rows.sortedAll_old) (Nat.le_succ _) ⟨hlen', out, ep, kv, he'⟩, rfl, q _ (I.hok.fresh (Nat.le_succ _))⟩
end
/-- the order of data -/
def leD (d e : D) : Bool := dataLe false D.py d e
/-- can be sorted: all alike, tuples with an item or neither None nor tuples -/
def CanSort (ds : List D) : Prop := (∀ d ∈ ds, ∀ e ∈ ds, alike d.py e.py = true) ∧ Sortable (ds.map D.py) ∧ ∀ d ∈ ds, shp 64 d = true
def gSortD (t : T) (k : T → Prop) : Prop := ∃ ds : List D, t.kids = some (.lst, ds.map T.s) ∧ CanSort ds ∧ k (.node .lst ((ds.mergeSort leD).map T.s))
theorem mono_sortD : MonoT gSortD := fun t P Q f ⟨ds, a, b, c⟩ => ⟨ds, a, b, f _ c⟩
theorem RepL.zipd {K : PySem.W.Frag} {S : Hp} : ∀ {vs : List V} {ds : List D}, RepL K S vs ds → (vs.zip ds).map (·.1) = vs ∧ (vs.zip ds).map (·.2) = ds
  | _, _, .nil => ⟨rfl, rfl⟩
  | _, _, .cons h1 h2 => by
    obtain ⟨a, b⟩ := RepL.zipd h2
    exact ⟨by rw [List.zip_cons_cons, List.map_cons, a], by rw [List.zip_cons_cons, List.map_cons, b]⟩
theorem rep_of_zip {K : PySem.W.Frag} {S : Hp} : ∀ {zs : List (V × D)}, (∀ z ∈ zs, Rep K S z.1 z.2) → RepL K S (zs.map (·.1)) (zs.map (·.2))
  | [], _ => .nil
  | z :: zs, h => .cons (h z (.head _)) (rep_of_zip fun y hy => h y (.tail _ hy))
theorem ok_sortD {K : PySem.W.Frag} : Ok1 K (rSortD K) gSortD := fun S B H x a F Q k sb bh o nb ⟨ds, hk, cs, g⟩ q => by
  obtain ⟨p, vs, rfl, hn, hz, ol⟩ := o.kids (sb.trans bh) hk
  obtain ⟨rp, _⟩ := OwnL.unsh ol
  obtain ⟨z1, z2⟩ := rp.zipd
  have hl := rp.len
  let zs : List (V × D) := vs.zip ds
  have hz1 : zs.map (·.1) = vs := z1
  have hz2 : zs.map (·.2) = ds := z2
  have hrep : ∀ z ∈ zs, Rep K S z.1 z.2 := fun z hz => rp.mem hz
  have sh : Ex S H := sb.trans bh
  let ys : List (V × PyData) := zs.map fun z => (z.1, z.2.py)
  have hy1 : ys.map (·.1) = vs := by rw [List.map_map]; exact hz1
  have hy2 : ys.map (·.2) = ds.map D.py := by rw [List.map_map, ← hz2, List.map_map]; rfl
  have mds : ∀ z ∈ zs, z.2 ∈ ds := fun z hz => by rw [← hz2]; exact List.mem_map_of_mem hz
  have hsort : (ys.mergeSort (dataLe false fun z => z.2)).map (·.1) = (zs.mergeSort fun z w => leD z.2 w.2).map (·.1) := by
    have e : ys.mergeSort (dataLe false fun z => z.2) = (zs.mergeSort fun z w => leD z.2 w.2).map fun z => (z.1, z.2.py) := (List.map_mergeSort (r := fun z w : V × D => leD z.2 w.2) (s := dataLe false fun z : V × PyData => z.2) (f := fun z : V × D => (z.1, z.2.py)) (fun a _ b _ => rfl)).symm
    rw [e, List.map_map]
    rfl
  have hsort2 : (zs.mergeSort fun z w => leD z.2 w.2).map (·.2) = ds.mergeSort leD := by
    rw [List.map_mergeSort (s := leD) (fun a _ b _ => rfl), hz2]
  refine ⟨p, ys, rfl, by rw [hy1]; exact SqL.of hn, fun y hy => ?_, ?_, by rw [hy2]; exact cs.2.1, fun y hy => ?_, fun l hl' => ?_⟩
  · obtain ⟨z, hz, rfl⟩ := List.mem_map.mp hy
    exact ((hrep z hz).mono sh).dp _ _ 64 (cs.2.2 _ (mds z hz))
  · rw [hy2]
    intro d hd e he
    obtain ⟨d', hd', rfl⟩ := List.mem_map.mp hd
    obtain ⟨e', he', rfl⟩ := List.mem_map.mp he
    exact cs.1 _ hd' _ he'
  · obtain ⟨z, hz, rfl⟩ := List.mem_map.mp hy
    exact (shp_py _ _ (cs.2.2 _ (mds z hz))).2
  · rw [hsort]
    have rq : RepL K S ((zs.mergeSort fun z w => leD z.2 w.2).map (·.1)) (ds.mergeSort leD) := by
      rw [← hsort2]
      exact rep_of_zip fun z hz => hrep z ((List.mergeSort_perm _ _).mem_iff.mp hz)
    refine q _ S B _ _ _ (.new sb bh hl') (own_new (OwnL.sh rq) hl' (by rw [rq.len, List.length_mergeSort, ← hl]; exact hz)) (fun z hz => ?_) g
    cases hz with
    | head => exact ⟨.inr hl', ex_none bh hl'⟩
    | tail _ hz => cases hz
section
variable {X : Cx} {a : Expr} {pos p : Pos} {pa : PX} {k : Nat}
theorem hu66 (hr : Room k X.A) : X.A.units + 66 < cLine := by have := hr.un; omega
theorem d_sortD (hr : Room k X.A) (hg : Gl X "sorted") (hm : X.mg "sorted" = none) (h : PD X a pa) (he : starEach [a] X.env = (false, eval a X.env) :: starEach [] X.env := by rfl) : PD X (.Call (.Name "sorted" p) [a] [] pos) (pC1 gSortD pa) := d_callB1 (cr_sortD (hu66 hr)) ok_sortD mono_sortD hg hm (by decide +kernel) h (by decide) (by decide) he
end
end PL

/-! The pure layer, part 21: dicts: a new one, sorted of one. -/
namespace PL
open PySem L2 PyProof.Rows PySem.Spec
section
variable {X : Cx}
def rSortDI : List V → Hp → VK → Prop := fun xs H Q => ∃ (a : Addr) (kvs : List (Key × V)) (ks : List Int), xs = [.ref a] ∧ Rd H a (.dK kvs) ∧ kvs.map (·.1) = ks.map Sum.inl ∧
    ∀ (ys : List Int) (p : Addr), ys.Perm ks → ys.Pairwise (· ≤ ·) → H p = none → Q (.ref p) (upd H p (.lst (ys.map V.int)))
theorem cr_sortDI (hcalm : X.calm = true) : CallR X (.builtin "sorted") rSortDI := by
  intro pins s σ H xs us Q I r q
  obtain ⟨a, kvs, ks, ex, hd, hks, q⟩ := q
  subst ex
  obtain ⟨u, eu, rx⟩ := vals1 r
  subst eu
  cases rx
  obtain ⟨z, lo, vs, rel, dd⟩ := dk_rd I.hok hd
  obtain ⟨ep, hat⟩ := dd.dictAt
  have hkeys : vs.map (·.1) = ks.map Sum.inl := rel.keys.symm.trans hks
  have hl : vs.length = ks.length := by
    have e := congrArg List.length hkeys
    rw [List.length_map, List.length_map] at e
    exact e
  have h16 : vs.length ≤ sizeLine := by rw [← rel.length]; exact z
  refine Calls.call_function_entry PyProof.Rows.kind_sorted PyProof.Rows.plain_sorted PyProof.Rows.entry_sorted (PyProof.Rows.args_sorted1 _) ?_
  unfold Builtin.«sorted»
  refine wpAny_bind (m := checkCount "sorted" 1 1 _) (wpAny_pure ?_)
  refine wpAny_bind (PySem.W.kdu_collect (A := X.A.in1) (PySem.W.kdl_dict (knd := mixKind X.prog X.w) (kvs := vs) (ep := ep) lo) (I.ok.hd hcalm) hat h16 fun h' tk acc hk hacc => ?_)
  have hal : acc.toList.length = ks.length := by rw [Array.length_toList, hacc.1, hl]
  have hS : IntsAre acc.toList ks := ints_each hal fun j v e => by
    obtain ⟨k, x, e1, e2⟩ := hacc.2 j v (by rw [← Array.getElem?_toList]; exact e)
    have e3 : (vs.map (·.1))[j]? = some k := by rw [List.getElem?_map, e1]; rfl
    rw [hkeys, List.getElem?_map] at e3
    cases e4 : ks[j]? with
    | none => rw [e4] at e3; cases e3
    | some y =>
      rw [e4] at e3
      have e5 : Sum.inl y = k := Option.some.inj e3
      subst e5
      rcases keyIs_shape (show keyIs (Sum.inl y) v = true from e2) with ⟨i, t, ek, ev⟩ | ⟨z, t, ek, ev⟩
      · cases ek
        exact ⟨y, t, rfl, ev⟩
      · cases ek
  have I1 : Inv X pins σ H { s with heap := h', toks := tk } := I.kept hk
  have hz2 : acc.toList.length ≤ sizeLine := by rw [hal, ← hl]; exact h16
  refine wpAny_bind (wpAny_newList ?_ hz2)
  have hoL : (h'.push (seqObj "list" acc.toList.toArray 0)).get? h'.objs.size = some (seqObj "list" acc.toList.toArray 0) := Heap.get?_push_size _ rfl
  show wpAny _ _ _ _ _ { s with heap := h'.push (seqObj "list" acc.toList.toArray 0), toks := tk }
  refine wpAny_bind (wpAny_holding (wpAny_call_entry PyProof.Rows.slot_list_sort ⟨_, hoL, rfl⟩ PyProof.Rows.entry_list_sort
    (SrtO.list_sort_ord SrtO.swo_int (s := { s with heap := h'.push (seqObj "list" acc.toList.toArray 0), toks := tk }) hoL hz2 (fun h2 => SrtO.ints_sortable hS h2) fun out h1 h2 => ⟨_, rfl, ?_⟩) (PyProof.Rows.args_list_sort _)))
  obtain ⟨k1, k2, k3⟩ := SrtO.ints_out hS h1 h2
  obtain ⟨e', he'⟩ := PyProof.Rows.sortedHeap_at (vs := acc.toList) (out := out.toArray) hoL
  have hlen : ((out.map SrtO.iv).map V.int).length ≤ sizeLine := by
    rw [List.length_map, k2.length_eq, ← hal]
    exact hz2
  refine wpAny_pure ⟨_, rfl, .ref h'.objs.size, upd H h'.objs.size (.lst ((out.map SrtO.iv).map V.int)), I1.laid (t' := tk) (fun b u e => ?_) (Nat.le_refl _)
    (show ObjOk X.prog X.w _ _ _ (.lst ((out.map SrtO.iv).map V.int)) from ⟨hlen, out, e', vals_of_ints k1, he'⟩), rfl, q _ _ k2 k3 (I1.hok.fresh (Nat.le_refl _))⟩
  have hb : b < h'.objs.size := Heap.lt_size e
  rw [PyProof.Rows.sortedHeap_old (Nat.ne_of_lt hb) (by rw [size_push']; exact Nat.lt_succ_of_lt hb)]
  exact Heap.get?_push_of_some _ e

/-! {} -/
def pDNewK : PX := fun _ k => k (.va (.node (.dK []) []))
def pDNewT : PX := fun _ k => k (.va (.node (.dT []) []))
theorem own_dict {K : PySem.W.Frag} {S H : Hp} {p : Addr} {sh : Shape} {o : HO} (h : ShO sh [] o) : Own K S (upd H p o) (.ref p) (.node sh []) [p] := by
  have := Own.node (K := K) (S := S) (H := upd H p o) (p := p) (F := []) (upd_same ..) h (Nat.zero_le _) OwnL.nil (fun z => nomatch z)
  exact this
theorem d_dnewK {pos : Pos} : PD X (.Dict [] [] pos) pDNewK := by
  refine ⟨PE.weak pe_dnewK fun σ H Q ⟨S, B, env, sr, q⟩ p hp => ?_, fun env P Q f h => f _ h⟩
  refine q S B _ _ (Gro.new sr.sb sr.bh hp) ⟨[p], own_dict ⟨rfl, rfl, List.nodup_nil⟩, fun z hz => ?_⟩
  cases hz with
  | head => exact ⟨hp, ex_none sr.bh hp⟩
  | tail _ hz => cases hz
theorem d_dnewT {pos : Pos} : PD X (.Dict [] [] pos) pDNewT := by
  refine ⟨PE.weak pe_dnewT fun σ H Q ⟨S, B, env, sr, q⟩ p hp => ?_, fun env P Q f h => f _ h⟩
  refine q S B _ _ (Gro.new sr.sb sr.bh hp) ⟨[p], own_dict ⟨rfl, rfl, List.nodup_nil⟩, fun z hz => ?_⟩
  cases hz with
  | head => exact ⟨hp, ex_none sr.bh hp⟩
  | tail _ hz => cases hz
/-! sorted(d), d with whole numbers as keys -/
def intK : Key → Option Int
  | .inl i => some i
  | .inr _ => none
def keysI : List Key → Option (List Int)
  | [] => some []
  | .inl i :: ks => (keysI ks).map (i :: ·)
  | _ => none
theorem keysI_map : ∀ ns : List Int, keysI (ns.map Sum.inl) = some ns
  | [] => rfl
  | n :: ns => by
    show (keysI (ns.map Sum.inl)).map (n :: ·) = _
    rw [keysI_map ns]
    rfl
theorem keysI_eq : ∀ {ks : List Key} {ns : List Int}, keysI ks = some ns → ks = ns.map Sum.inl
  | [], ns, h => by cases h; rfl
  | .inl i :: ks, ns, h => by
    have h : (keysI ks).map (i :: ·) = some ns := h
    obtain ⟨ms, e, rfl⟩ := Option.map_eq_some_iff.mp h
    rw [keysI_eq e]
    rfl
  | .inr _ :: ks, ns, h => by cases h
def pSortDI (p : PX) : PX := fun env k => p env fun r => ∃ t ks ds ns, r.tr env = some t ∧ t.er = .node (.dK ks) ds ∧ keysI ks = some ns ∧ ∀ ys : List Int, ys.Perm ns → ys.Pairwise (· ≤ ·) → k (.va (.node .lst (ys.map fun n => T.s (.int n))))
theorem d_sortDI {a : Expr} {pos p : Pos} {pa : PX} (hc : X.calm = true) (hg : Gl X "sorted") (hm : X.mg "sorted" = none) (h : PD X a pa) (he : starEach [a] X.env = (false, eval a X.env) :: starEach [] X.env := by rfl) : PD X (.Call (.Name "sorted" p) [a] [] pos) (pSortDI pa) := by
  refine ⟨PE.weak (pe_callB (cr_sortDI hc) hg hm (by decide +kernel) (pa_cons h.run pa_nil he) (by decide) (by decide) he) fun σ H Q ⟨S, B, env, sr, q⟩ => ?_, fun env P Q f q => h.mono env (fun r ⟨t, ks, ds, ns, e1, e2, e3, q⟩ => ⟨t, ks, ds, ns, e1, e2, e3, fun ys p1 p2 => f _ (q ys p1 p2)⟩) q⟩
  refine ⟨S, B, env, sr, h.mono env (fun r ⟨t, ks, ds, ns, e1, e2, e3, q⟩ S1 B1 v H1 g1 r1 => ?_) q⟩
  have sr1 := sr.gro g1
  have rp := r1.rep sr1 e1
  rw [e2] at rp
  cases rp with
  | @node b _ vs _ n1 n2 n3 =>
    have n1 : ks.length = vs.length ∧ Rd H1 b (.dK (ks.zip vs)) := n1
    refine ⟨b, ks.zip vs, ns, rfl, n1.2, ?_, fun ys l p1 p2 hl => ?_⟩
    · rw [← keysI_eq e3, List.map_fst_zip (by omega)]
    · have hlen : (ys.map V.int).length ≤ sizeLine := by
        rw [List.length_map, p1.length_eq]
        have := congrArg List.length (keysI_eq e3)
        rw [List.length_map] at this
        omega
      refine q ys p1 p2 S1 B1 _ _ (g1.trans (Gro.new g1.sb g1.bh hl)) ⟨_, by rw [map_s]; exact own_new (OwnL.sh (repL_ints ys)) hl hlen, fun z hz => ?_⟩
      cases hz with
      | head => exact ⟨ex_none g1.h hl, ex_none g1.bh hl⟩
      | tail _ hz => cases hz
end
end PL

/-! The pure layer, part 22: extend. -/
namespace PL
open PySem L2 PyProof.Rows
/-- recv.extend(e), e a list of shared things -/
def pExt (po pe : PX) : PSt := fun pd env => po env fun ro => ∃ i π pin u ts, ro = .bo i π ∧ env[i]? = some (.own pin u) ∧ u.at π = some (.node .lst ts) ∧ pe env fun re => ∃ (t : T) (ds : List D), re.mv env = some t ∧ t.kids = some (.lst, ds.map T.s) ∧ ts.length + ds.length < 16777216 ∧ pd.nx (env.set i (.own pin (u.putAt π (.node .lst (ts ++ ds.map T.s)))))
section
variable {X : Cx} {o e : Expr} {apos cpos pos : Pos} {po pe : PX} {i : Nat}
theorem ext_core {K : PySem.W.Frag} {S B H : Hp} {σ : L2.St} {env : En} {w : V} {u : T} {pin : Option V} {π : List Nat} {ts : List T} {ws : List V} {ds : List D} (sr : SR K S B H σ env) (e : env[i]? = some (.own pin u)) (ea : u.at π = some (.node .lst ts)) (hl : ts.length + ds.length < 16777216)
    (hw : ∃ v0, σ[i]? = some (some v0) ∧ At H v0 π w) (rw_ : RepL K S ws ds) : ∃ l xs, w = .ref l ∧ H l = some (.lst xs) ∧ xs.length + ws.length ≤ sizeLine ∧ SR K S B (upd H l (.lst (xs ++ ws))) σ (env.set i (.own pin (u.putAt π (.node .lst (ts ++ ds.map T.s))))) := by
  obtain ⟨v0, w', F1, a1, a2, a3, a4, a8⟩ := sr.mut0 e ea
  obtain ⟨v1, e1, at1⟩ := hw
  cases at1.uniq e1 a1 a2
  cases a3 with
  | @node l ob _ xs _ F h1 h2 h3 h4 h5 =>
    have h2 : ob = .lst xs := h2
    subst h2
    have lx := h4.len
    have lw := rw_.len
    have hz := sizeLine_eq
    refine ⟨l, xs, rfl, h1, by omega, a8 (F2 := l :: (F ++ [])) (fun p hp hq => upd_ne fun z => hp (by rw [z]; exact .head _)) ?_ fun p hp => ?_⟩
    · have oA := h4.append (OwnL.sh (H := H) rw_) fun p hp hq => nomatch hq
      have nA : l ∉ F ++ [] := by rw [List.append_nil]; exact h5
      refine .node upd_same rfl ?_ (oA.mono (.refl _) fun p hp => upd_ne fun z => nA (z ▸ hp)) nA
      rw [List.length_append]
      omega
    · rw [List.append_nil] at hp
      exact hp
theorem ext_read {D : Ends} {σ : L2.St} {H : Hp} (ho : PD X o po) (he : PD X e pe) (h : tSd X.K (pExt po pe) D σ H) : tDrop (tBM X.K "list" rExtend (tD X.K po) (tCons (tD X.K pe) tNil)) D σ H := by
  obtain ⟨S, B, env, pd, sr, q, br⟩ := h
  refine ⟨S, B, env, sr, ho.mono env (fun ro ⟨i, π, pin, u, ts, e1, ec, ea, q⟩ S1 B1 v1 H1 g1 r1 => ?_) q⟩
  have sr1 := sr.gro g1
  subst e1
  obtain ⟨l0, xs0, rfl, hl1⟩ := list_at sr1 r1 ec ea
  refine ⟨.inl ⟨rfl, _, SqL.of hl1⟩, S1, B1, env, sr1, he.mono env (fun re ⟨t, ds, e2, ek, hl, q⟩ S2 B2 v2 H2 g2 r2 => ?_) q⟩
  have sr2 := sr1.gro g2
  obtain ⟨F, ow, _⟩ := r2.mvd sr2 g2.h (Gro.refl sr2.sb sr2.bh) e2
  obtain ⟨p, vs, rfl, hn, hz, ol⟩ := ow.kids sr2.sh ek
  obtain ⟨rp, _⟩ := OwnL.unsh ol
  obtain ⟨v0, e0, at0⟩ := r1
  obtain ⟨l, xs, ew, h1, h2, sr3⟩ := ext_core sr2 ec ea hl ⟨v0, e0, at0.mono g2.h⟩ rp
  cases ew
  exact ⟨_, p, xs, vs, rfl, rfl, h1, hn, h2, br.nx S2 B2 σ _ _ (g1.trans g2).e sr3 q⟩
theorem ext_mono (ho : PD X o po) (he : PD X e pe) : MonoS (pExt po pe) := fun env le q =>
  ho.mono env (fun ro ⟨i, π, pin, u, ts, e1, ec, ea, q⟩ => ⟨i, π, pin, u, ts, e1, ec, ea, he.mono env (fun re ⟨t, ds, e2, ek, hl, q⟩ => ⟨t, ds, e2, ek, hl, le.nx _ q⟩) q⟩) q
/-- o.extend(e) -/
theorem ds_ext (ho : PD X o po) (he : PD X e pe) (hbase : attributeBase o "extend" X.env (eval o X.env) = eval o X.env := by rfl)
    (hfew : ((backTo cpos (starEach [e] X.env)).all (fun x => !x.1) && (backToKw cpos (keywordEach [] X.env)).all (fun x => x.1.isSome)
      && decide ([e].length + ([] : List Keyword).length + (if ([] : List Keyword).isEmpty then 0 else 1) < 30)) = true := by rfl)
    (hline : (apos.endLine == cpos.line) = true := by rfl) (hs : starEach [e] X.env = (false, eval e X.env) :: starEach [] X.env := by rfl) (hplain : (backTo cpos (starEach [] X.env)).any (·.1) = false := by rfl) (hw : swapsWith (.Call (.Attribute o "extend" apos) [e] [] cpos) none pos.line X.env = pure false := by rfl) :
    PDS X (.Expr (.Call (.Attribute o "extend" apos) [e] [] cpos) pos) (pExt po pe) :=
  ⟨PS.weak (ps_expr (pe_bm PySem.F.plainAttrs_list PySem.F.slot_list_extend PySem.F.type_list_extend mt_extend ho.run (pa_cons he.run pa_nil hs) hbase hfew hline hs hplain) hw) fun D σ H h => ext_read ho he h, ext_mono ho he⟩
end
end PL

/-! The pure layer, part 23: range with a step. -/
namespace PL
open PySem L2 PyProof.Rows
def cntC (i j c : Int) : Nat := if i < j then ((j - i - 1) / c + 1).toNat else 0
def rngC (lo c : Int) (n : Nat) : List D := (List.range n).map fun i => D.int (lo + ((i : Nat) : Int) * c)
theorem rngC_len (lo c : Int) (n : Nat) : (rngC lo c n).length = n := by unfold rngC; simp
theorem rngC_get (lo c : Int) (n i : Nat) (h : i < n) : (rngC lo c n)[i]? = some (.int (lo + ((i : Nat) : Int) * c)) := by
  unfold rngC
  rw [List.getElem?_map, List.getElem?_range h]
  rfl
theorem jok_rngC {K : PySem.W.Frag} {S Z : Hp} {lo c : Int} {n : Nat} : JOk K S Z (rngC lo c n) (Itc lo c n) := fun i S2 B2 H2 e1 e2 e3 e4 => by
  refine ⟨fun hi => ?_, fun x H3 hi y => ?_, fun hi => ?_⟩
  · rw [rngC_len] at hi; exact hi
  · obtain ⟨rfl, rfl⟩ := y
    rw [rngC_len] at hi
    exact ⟨S2, B2, _, Gro.refl e2 e3, rngC_get lo c n i hi, .int _⟩
  · rw [rngC_len] at hi; exact Nat.le_of_eq hi.symm
theorem lk_rngC {K : PySem.W.Frag} {S B H : Hp} {σ : L2.St} {env : En} {lo c : Int} {n : Nat} : Lk K S B H σ env ⟨rngC lo c n, none, false⟩ (Itc lo c n) [] := ⟨fun Z _ _ => jok_rngC, fun _ => rfl, (fun i e => nomatch e), fun e => nomatch e⟩
theorem rgC_pos {i j c : Int} (h1 : -2305843009213693952 ≤ i ∧ i < 2305843009213693952 ∧ -2305843009213693952 ≤ j ∧ j < 2305843009213693952) (h2 : 0 < c ∧ c < 1073741824) : RgC i j c (cntC i j c) := by
  have e0 : Builtin.Range.rangeSize i j c = (cntC i j c : Int) := by
    unfold Builtin.Range.rangeSize cntC
    rw [if_pos (by omega)]
    split
    · have := Int.ediv_nonneg (a := j - i - 1) (b := c) (by omega) (by omega)
      omega
    · rfl
  have e1 := rangeSize_toNat_le i j c
  have e2 := rangeSize_toNat i j c
  refine ⟨by omega, by omega, ?_, e0⟩
  unfold Builtin.Range.small
  simp only [Builtin.Range.rangeFitsLong, Bool.and_eq_true, Bool.or_eq_true, decide_eq_true_eq, beq_iff_eq, if_pos (show c > 0 by omega)]
  refine ⟨⟨⟨⟨by omega, by omega⟩, by omega⟩, by omega⟩, .inr (by omega)⟩
def pRng3 (p q s : PX) : PI' := fun env k => p env fun r => q env fun r' => s env fun r'' => ∃ m n c, r = .va (.s (.int m)) ∧ r' = .va (.s (.int n)) ∧ r'' = .va (.s (.int c)) ∧ ((-2305843009213693952 ≤ m ∧ m < 2305843009213693952 ∧ -2305843009213693952 ≤ n ∧ n < 2305843009213693952) ∧ (0 < c ∧ c < 1073741824)) ∧ k ⟨rngC m c (cntC m n c), none, false⟩
section
variable {X : Cx} {a b c tg : Expr} {p pos : Pos} {pa pb pc : PX}
theorem di_rng3 (hg : Gl X "range") (hm : X.mg "range" = none) (h : PD X a pa) (h' : PD X b pb) (h'' : PD X c pc) (hs : starEach [a, b, c] X.env = (false, eval a X.env) :: starEach [b, c] X.env := by rfl) (hs2 : starEach [b, c] X.env = (false, eval b X.env) :: starEach [c] X.env := by rfl) (hs3 : starEach [c] X.env = (false, eval c X.env) :: starEach [] X.env := by rfl) (hpl : (backTo pos (starEach [b, c] X.env)).any (·.1) = false := by rfl) : PDI X tg (.Call (.Name "range" p) [a, b, c] [] pos) (pRng3 pa pb pc) := by
  refine ⟨PI.weak (pi_range3 hg hm (pa_cons h.run (pa_cons h'.run (pa_cons h''.run pa_nil hs3) hs2) hs) hs hpl) fun σ H R ⟨S, B, env, sr, q⟩ => ⟨S, B, env, sr, h.mono env (fun ra q S1 B1 v H1 g1 r1 => ⟨S1, B1, env, sr.gro g1, h'.mono env (fun rb q S2 B2 v2 H2 g2 r2 => ⟨S2, B2, env, (sr.gro g1).gro g2, h''.mono env (fun rc ⟨m, n, c, e, e', e'', ⟨b1, b2⟩, q3⟩ S3 B3 v3 H3 g3 r3 => ?_) q⟩) q⟩) q⟩, fun env P Q f q => h.mono env (fun r q => h'.mono env (fun r' q => h''.mono env (fun r'' ⟨m, n, c, e, e', e'', b, q⟩ => ⟨m, n, c, e, e', e'', b, f _ q⟩) q) q) q⟩
  subst e e' e''
  rw [r1.int, r2.int, r3.int]
  exact ⟨m, n, c, _, rfl, rgC_pos b1 b2, q3 S3 B3 H3 _ [] ((g1.trans g2).trans g3) lk_rngC⟩
end
end PL

/-! The typed layer, part 1: plain functions with their safety, what they stand for. -/
namespace PL
open PySem L2

/-! ### the words of the plain functions -/
inductive Ctl (σ ρ : Type) where
  | nx (s : σ) | bk (s : σ) | rt (r : ρ)
def grd {α : Type} (c : Prop) [Decidable c] (k : Option α) : Option α := if c then k else none
def bnd {α β : Type} (a : α) (k : α → Option β) : Option β := k a
def foldO {σ α : Type} (b : σ → α → Option σ) : List α → σ → Option σ
  | [], s => some s
  | x :: xs, s => (b s x).bind fun s' => foldO b xs s'
def forC {σ ρ α : Type} (b : σ → α → Option (Ctl σ ρ)) : List α → σ → Option (Ctl σ ρ)
  | [], s => some (.nx s)
  | x :: xs, s => (b s x).bind fun c => match c with
    | .nx s' => forC b xs s'
    | .bk s' => some (.nx s')
    | .rt r => some (.rt r)
def whileC {σ ρ : Type} (c : σ → Option Bool) (b : σ → Option (Ctl σ ρ)) : Nat → σ → Option (Ctl σ ρ)
  | 0, _ => none
  | n + 1, s => (c s).bind fun t => if t = true then (b s).bind (fun z => match z with
    | .nx s' => whileC c b n s'
    | .bk s' => some (.nx s')
    | .rt r => some (.rt r)) else some (.nx s)
/-- a list by a comprehension whose test or element may fail -/
def lcO {α β : Type} (b : α → Option (Option β)) : List α → Option (List β)
  | [] => some []
  | x :: xs => (b x).bind fun o => (lcO b xs).bind fun ys => match o with
    | some y => some (y :: ys)
    | none => some ys
def rng (lo hi : Int) : List Int := (List.range (hi - lo).toNat).map fun i => lo + ((i : Nat) : Int)
def nI (n : Nat) (i : Int) : Nat := if 0 ≤ i then i.toNat else (i + n).toNat
/-- the while loops' fuel -/
def fuelN : Nat := 18446744073709551616
theorem grdE {α : Type} {c : Prop} [Decidable c] {k : Option α} {r : α} (h : grd c k = some r) : c ∧ k = some r := by
  unfold grd at h
  split at h
  · exact ⟨by assumption, h⟩
  · cases h
theorem bndE {α β : Type} {a : α} {k : α → Option β} {r : β} (h : bnd a k = some r) : ∃ x, a = x ∧ k x = some r := ⟨a, rfl, h⟩
theorem bindE {α β : Type} {o : Option α} {k : α → Option β} {r : β} (h : o.bind k = some r) : ∃ x, o = some x ∧ k x = some r := Option.bind_eq_some_iff.mp h
theorem iteT {α : Type} {b : Bool} {x y : Option α} {r : α} (hb : b = true) (h : (if b = true then x else y) = some r) : x = some r := by rw [if_pos hb] at h; exact h
theorem iteF {α : Type} {b : Bool} {x y : Option α} {r : α} (hb : b = false) (h : (if b = true then x else y) = some r) : y = some r := by
  rw [if_neg (by rw [hb]; exact Bool.false_ne_true)] at h; exact h
theorem someE {α : Type} {a b : α} (h : some a = some b) : a = b := Option.some.inj h
theorem ixN_nI {n : Nat} {i : Int} {j : Nat} (h : ixN n i = some j) : j = nI n i := by
  unfold ixN at h; unfold nI
  split at h
  · rename_i h0
    split at h
    · cases h; rw [if_pos h0]
    · cases h
  · rename_i h0
    split at h
    · cases h; rw [if_neg h0]
    · cases h
theorem atI_ix {α : Type} {xs : List α} {i : Int} {x : α} (h : atI xs i = some x) : ∃ j, ixN xs.length i = some j ∧ xs[j]? = some x := bindE h
theorem atI_map {α β : Type} (f : α → β) {xs : List α} {i : Int} {x : α} (h : atI xs i = some x) : atI (xs.map f) i = some (f x) := by
  obtain ⟨j, a, b⟩ := atI_ix h
  unfold atI
  rw [List.length_map, a]
  show (xs.map f)[j]? = _
  rw [List.getElem?_map, b]
  rfl

/-! ### encodings -/
def eU1 : Unit → D := fun _ => .non
def eL {α : Type} (f : α → D) (xs : List α) : D := .node .lst (xs.map f)
def eU {α : Type} (f : α → D) (xs : List α) : D := .node .tup (xs.map f)
def eR {α : Type} (f : α → D) (xs : List α) : D := .node .ro (xs.map f)
def eQ {α : Type} (f : α → D) (p : Bool × List α) : D := .node (sqS p.1) (p.2.map f)
def eO {α : Type} (f : α → D) : Option α → D
  | none => .non
  | some a => f a
def sh {α : Type} (f : α → D) (x : α) : T := .s (f x)
def oL {α : Type} (g : α → T) (xs : List α) : T := .node .lst (xs.map g)
def Er {α : Type} (g : α → T) (f : α → D) : Prop := ∀ x, (g x).er = f x
theorem er_sh {α : Type} {f : α → D} : Er (sh f) f := fun _ => rfl
theorem er_oL {α : Type} {g : α → T} {f : α → D} (h : Er g f) : Er (oL g) (eL f) := fun xs => by
  unfold oL eL
  rw [er_node, List.map_map]
  exact congrArg _ (List.map_congr_left fun x _ => h x)
theorem oL_sh {α : Type} {f : α → D} {xs : List α} : oL (sh f) xs = .node .lst ((xs.map f).map T.s) := by
  unfold oL
  rw [List.map_map]
  rfl

/-! ### judgements -/
def Ev (p : PX) (env : En) (r : R) : Prop := ∀ k : R → Prop, k r → p env k
def Et (p : PB) (env : En) (b : Bool) : Prop := ∀ k : Bool → Prop, k b → p env k
def Ea (p : PAs) (env : En) (rs : List R) : Prop := ∀ k : List R → Prop, k rs → p env k
def Ei (p : PI') (env : En) (it : ItD) : Prop := ∀ k : ItD → Prop, k it → p env k
abbrev vI (i : Int) : R := .va (.s (.int i))
abbrev vB (b : Bool) : R := .va (.s (.bl b))
abbrev vS (d : D) : R := .va (.s d)
/-- what a result is, as data -/
def RdR (env : En) (r : R) (d : D) : Prop := ∃ t, r.tr env = some t ∧ t.er = d
section
variable {env : En} {p q p1 p2' : PX} {pb pb' : PB} {ps : PAs} {r r' : R} {d : D} {t : T} {i j m n : Int} {s : Nat} {π : List Nat} {pin : Option V} {b c : Bool} {α β γ : Type} {f : α → D} {g : α → T} {xs ys : List α} {x y : α} {shp' : Shape} {ks : List T} {F : List Addr}
theorem rd_s : RdR env (vS d) d := ⟨_, rfl, rfl⟩
theorem rd_o (h : Er g f) : RdR env (.va (g x)) (f x) := ⟨_, rfl, h x⟩
theorem rd_b (h : look env s π = some t) (e : t.er = d) : RdR env (.bo s π) d := ⟨t, h, e⟩
theorem look_own (h : env[s]? = some (.own pin t)) : look env s [] = some t := by
  unfold look
  rw [h]
  show (some t).bind (fun t => t.at []) = _
  show t.at [] = _
  unfold T.at
  rfl
theorem look_lk (h : env[s]? = some (.lk F t)) : look env s [] = some t := by
  unfold look
  rw [h]
  show t.at [] = _
  unfold T.at
  rfl
theorem at_snoc : ∀ {π : List Nat} {t u c : T} {sh' : Shape} {ks : List T} {j : Nat}, t.at π = some u → u = .node sh' ks → ks[j]? = some c → t.at (π ++ [j]) = some c
  | [], t, u, c, sh', ks, j, h, e, hc => by
    unfold T.at at h
    cases h
    subst e
    show T.at (.node sh' ks) [j] = _
    unfold T.at
    rw [hc]
    show T.at c [] = _
    unfold T.at
    rfl
  | k :: π, .s d, u, c, sh', ks, j, h, e, hc => by
    unfold T.at at h
    cases h
  | k :: π, .node s2 k2, u, c, sh', ks, j, h, e, hc => by
    unfold T.at at h
    obtain ⟨z, hz, h⟩ := bindE h
    show T.at (.node s2 k2) (k :: (π ++ [j])) = _
    unfold T.at
    rw [hz]
    exact at_snoc h e hc
theorem look_snoc {u c : T} {sh' : Shape} {ks : List T} {j : Nat} (h : look env s π = some u) (e : u = .node sh' ks) (hc : ks[j]? = some c) : look env s (π ++ [j]) = some c := by
  unfold look at h ⊢
  obtain ⟨c0, h0, h⟩ := bindE h
  obtain ⟨t, h1, h⟩ := bindE h
  rw [h0]
  show c0.tr.bind _ = _
  rw [h1]
  exact at_snoc h e hc
/-! names, constants -/
theorem ev_s (h : env[s]? = some (.own pin (.s d))) : Ev (pVar s) env (vS d) := fun k hk => by
  unfold pVar
  rw [h]
  exact hk
theorem ev_b (h : env[s]? = some (.own pin (.node shp' ks))) : Ev (pVar s) env (.bo s []) := fun k hk => by
  unfold pVar
  rw [h]
  exact hk
theorem ev_lk (h : env[s]? = some (.lk F (.node shp' ks))) : Ev (pVar s) env (.bo s []) := fun k hk => by
  unfold pVar
  rw [h]
  exact hk
theorem ev_lks (h : env[s]? = some (.lk F (.s d))) : Ev (pVar s) env (vS d) := fun k hk => by
  unfold pVar
  rw [h]
  exact hk
theorem ev_c : Ev (pC d) env (vS d) := fun k hk => hk
/-- the same result by another name -/
theorem ev_eq (h : Ev p env r) (e : r = r') : Ev p env r' := e ▸ h
theorem ev_d {d' : D} (h : Ev p env (vS d)) (e : d = d') : Ev p env (vS d') := e ▸ h
/-- an owned result frozen -/
theorem ev_fz (h : Ev p env (.va t)) (e : t.er = d) : Ev (pFz p) env (vS d) := fun k hk => h _ ⟨t, rfl, by rw [e]; exact hk⟩
theorem ev_unw {o : Option α} (h : Ev p env (vS (eO f o))) (e : o = some x) : Ev p env (vS (f x)) := by
  subst e
  exact h
theorem ea_nil : Ea pNil env [] := fun k hk => hk
theorem ea_cons {rs : List R} (h : Ev p env r) (h' : Ea ps env rs) : Ea (pCons p ps) env (r :: rs) := fun k hk => h _ (h' _ hk)
/-! tests -/
theorem et_bl (h : Ev p env (vB b)) : Et (pBl p) env b := fun k hk => h _ ⟨b, rfl, hk⟩
theorem et_and (h : Et pb env b) (h' : Et pb' env c) : Et (pAndT pb pb') env (b && c) := fun k hk => h _ (by
  cases b with
  | true => exact h' _ hk
  | false => exact hk)
theorem et_or (h : Et pb env b) (h' : Et pb' env c) : Et (pOrT pb pb') env (b || c) := fun k hk => h _ (by
  cases b with
  | true => exact hk
  | false => exact h' _ hk)
theorem et_andM {o : Option Bool} (h : Et pb env b) (e : (if b = true then o else some false) = some c) (h' : b = true → o = some c → Et pb' env c) : Et (pAndT pb pb') env c := fun k hk => h _ (by
  cases b with
  | true => exact h' rfl e _ hk
  | false => cases e; exact hk)
theorem et_orM {o : Option Bool} (h : Et pb env b) (e : (if b = true then some true else o) = some c) (h' : b = false → o = some c → Et pb' env c) : Et (pOrT pb pb') env c := fun k hk => h _ (by
  cases b with
  | true => cases e; exact hk
  | false => exact h' rfl e _ hk)
theorem et_not (h : Et pb env b) : Et (pNotT pb) env (!b) := fun k hk => h _ hk
/-! .. as values -/
theorem ev_and (h : Ev p env (vB b)) (h' : Ev q env (vB c)) : Ev (pAndV p q) env (vB (b && c)) := fun k hk => h _ ⟨b, rfl, by
  cases b with
  | true => exact h' _ hk
  | false => exact hk⟩
theorem ev_or (h : Ev p env (vB b)) (h' : Ev q env (vB c)) : Ev (pOrV p q) env (vB (b || c)) := fun k hk => h _ ⟨b, rfl, by
  cases b with
  | true => exact hk
  | false => exact h' _ hk⟩
theorem ev_andM {o : Option Bool} (h : Ev p env (vB b)) (e : (if b = true then o else some false) = some c) (h' : b = true → o = some c → Ev q env (vB c)) : Ev (pAndV p q) env (vB c) := fun k hk => h _ ⟨b, rfl, by
  cases b with
  | true => exact h' rfl e _ hk
  | false => cases e; exact hk⟩
theorem ev_orM {o : Option Bool} (h : Ev p env (vB b)) (e : (if b = true then some true else o) = some c) (h' : b = false → o = some c → Ev q env (vB c)) : Ev (pOrV p q) env (vB c) := fun k hk => h _ ⟨b, rfl, by
  cases b with
  | true => cases e; exact hk
  | false => exact h' rfl e _ hk⟩
theorem ev_not (h : Ev p env (vB b)) : Ev (pNotV p) env (vB (!b)) := fun k hk => h _ ⟨b, rfl, hk⟩
theorem ev_if {g : α → R} {x y : α} (h : Et pb env b) (h1 : Ev p env (g x)) (h2 : Ev q env (g y)) : Ev (pIfE pb p q) env (g (if b = true then x else y)) := fun k hk => h _ (by
  cases b with
  | true => exact h1 _ hk
  | false => exact h2 _ hk)
theorem ev_ifM {g : α → R} {o o' : Option α} (h : Et pb env b) (e : (if b = true then o else o') = some x) (h1 : b = true → o = some x → Ev p env (g x)) (h2 : b = false → o' = some x → Ev q env (g x)) : Ev (pIfE pb p q) env (g x) := fun k hk => h _ (by
  cases b with
  | true => exact h1 rfl e _ hk
  | false => exact h2 rfl e _ hk)
/-! whole numbers -/
theorem ev_add (h : Ev p env (vI m)) (h' : Ev q env (vI n)) : Ev (pOp gAdd p q) env (vI (m + n)) := fun k hk => h _ (h' _ ⟨_, _, rfl, rfl, hk⟩)
theorem ev_sub (h : Ev p env (vI m)) (h' : Ev q env (vI n)) : Ev (PL.p2 gSubI p q) env (vI (m - n)) := fun k hk => h _ (h' _ ⟨_, _, rfl, rfl, hk⟩)
theorem ev_mul (h : Ev p env (vI m)) (h' : Ev q env (vI n)) (c : (-18446744073709551616 < m ∧ m < 18446744073709551616) ∨ (-18446744073709551616 < n ∧ n < 18446744073709551616)) : Ev (pOp gMul p q) env (vI (m * n)) := fun k hk => h _ (h' _ ⟨_, _, rfl, rfl, c, hk⟩)
theorem ev_mod (h : Ev p env (vI m)) (h' : Ev q env (vI n)) (c : 0 < n) : Ev (PL.p2 gMod p q) env (vI (m % n)) := fun k hk => h _ (h' _ ⟨_, _, rfl, rfl, c, hk⟩)
theorem ev_div (h : Ev p env (vI m)) (h' : Ev q env (vI n)) (c : 0 < n ∧ n ≤ 4611686018427387904) : Ev (PL.p2 gDiv p q) env (vI (m / n)) := fun k hk => h _ (h' _ ⟨_, _, rfl, rfl, c, hk⟩)
theorem ev_pow (h : Ev p env (vI m)) (h' : Ev q env (vI n)) (c : 0 ≤ n ∧ n ≤ 1000 ∧ -18446744073709551616 < m ∧ m < 18446744073709551616) : Ev (PL.p2 gPow p q) env (vI (m ^ n.toNat)) := fun k hk => h _ (h' _ ⟨_, _, rfl, rfl, c, hk⟩)
theorem ev_neg (h : Ev p env (vI m)) : Ev (pNeg p) env (vI (-m)) := fun k hk => h _ ⟨m, rfl, hk⟩
theorem ev_cmp {φ : Int → Int → Bool} (h : Ev p env (vI m)) (h' : Ev q env (vI n)) : Ev (PL.p2 (gCmp φ) p q) env (vB (φ m n)) := fun k hk => h _ (h' _ ⟨_, _, rfl, rfl, hk⟩)
theorem et_cmp {φ : Int → Int → Bool} (h : Ev p env (vI m)) (h' : Ev q env (vI n)) : Et (p2T (gCmp φ) p q) env (φ m n) := fun k hk => h _ (h' _ ⟨_, _, rfl, rfl, _, rfl, hk⟩)
/-- two operands read, a truth value out -/
theorem ev_two {gg : D → D → (D → Prop) → Prop} {a e : D} (h : Ev p env r) (h' : Ev q env r') (x1 : RdR env r a) (x2 : RdR env r' e) (w : ∀ k : D → Prop, k (.bl b) → gg a e k) : Ev (PL.p2 gg p q) env (vB b) := fun k hk => h _ (h' _ (by
  obtain ⟨t, e1, e2⟩ := x1
  obtain ⟨u, e3, e4⟩ := x2
  refine ⟨t, u, e1, e3, ?_⟩
  rw [e2, e4]
  exact w _ hk))
theorem et_two {gg : D → D → (D → Prop) → Prop} {a e : D} (h : Ev p env r) (h' : Ev q env r') (x1 : RdR env r a) (x2 : RdR env r' e) (w : ∀ k : D → Prop, k (.bl b) → gg a e k) : Et (p2T gg p q) env b := fun k hk => h _ (h' _ (by
  obtain ⟨t, e1, e2⟩ := x1
  obtain ⟨u, e3, e4⟩ := x2
  refine ⟨t, u, e1, e3, ?_⟩
  rw [e2, e4]
  exact w _ ⟨b, rfl, hk⟩))
/-! texts -/
theorem ev_cat {x y : Str} (h : Ev p env (vS (.str x))) (h' : Ev q env (vS (.str y))) (c : x.length + y.length ≤ sizeLine) : Ev (pOp gAdd p q) env (vS (.str (x ++ y))) := fun k hk => h _ (h' _ ⟨_, _, rfl, rfl, c, hk⟩)
end
end PL

/-! The typed layer, part 2: equality, displays, subscripts, built-in calls, comprehensions. -/
namespace PL
open PySem L2

/-! ### equality of data -/
def DeqOk {α : Type} [DecidableEq α] (f : α → D) : Prop := ∀ x y, deq (f x) (f y) = decide (x = y)
def ShpOk {α : Type} (n : Nat) (f : α → D) : Prop := ∀ x, shp n (f x) = true
def NN {α : Type} (f : α → D) : Prop := ∀ x, f x ≠ .non
theorem dec_and {p q : Prop} [Decidable p] [Decidable q] {r : Prop} [Decidable r] (h : r ↔ p ∧ q) : decide r = (decide p && decide q) := by
  by_cases hp : p <;> by_cases hq : q <;> simp [h, hp, hq]
theorem deq_str' {x y : Str} : deq (.str x) (.str y) = decide (x = y) := by
  show PyData.eqv (.str x) (.str y) = _
  simp only [PyData.eqv]
  by_cases h : x = y
  · rw [decide_eq_true h, h]
    exact beq_self_eq_true _
  · rw [decide_eq_false h]
    exact beq_eq_false_iff_ne.mpr h
theorem deq_bl' {x y : Bool} : deq (.bl x) (.bl y) = decide (x = y) := by
  cases x <;> cases y <;> rfl
theorem dq_int : DeqOk D.int := fun x y => deq_int
theorem dq_str : DeqOk D.str := fun x y => deq_str'
theorem dq_bl : DeqOk D.bl := fun x y => deq_bl'
theorem dq_unit : DeqOk eU1 := fun x y => by cases x; cases y; rfl
theorem deq_nonL {d : D} (h : d ≠ .non) : deq .non d = false := by
  cases d with
  | non => exact absurd rfl h
  | bl b => cases b <;> rfl
  | int i => rfl
  | str x => rfl
  | node s ks => cases s <;> rfl
theorem deq_nonR {d : D} (h : d ≠ .non) : deq d .non = false := by
  cases d with
  | non => exact absurd rfl h
  | bl b => cases b <;> rfl
  | int i => rfl
  | str x => rfl
  | node s ks => cases s <;> rfl
theorem dq_opt {α : Type} [DecidableEq α] {f : α → D} (h : DeqOk f) (nn : NN f) : DeqOk (eO f) := fun x y => by
  cases x with
  | none => cases y with
    | none => rfl
    | some b => exact (deq_nonL (nn b)).trans (by simp)
  | some a => cases y with
    | none => exact (deq_nonR (nn a)).trans (by simp)
    | some b => exact (h a b).trans (by simp)
theorem deqs_map {α : Type} [DecidableEq α] {f : α → D} (h : DeqOk f) : ∀ xs ys : List α, PyData.eqvAll (pys (xs.map f)) (pys (ys.map f)) = decide (xs = ys)
  | [], [] => rfl
  | [], y :: ys => by simp [pys, PyData.eqvAll]
  | x :: xs, [] => by simp [pys, PyData.eqvAll]
  | x :: xs, y :: ys => by
    show (PyData.eqv (f x).py (f y).py && PyData.eqvAll (pys (xs.map f)) (pys (ys.map f))) = _
    rw [deqs_map h xs ys, show PyData.eqv (f x).py (f y).py = decide (x = y) from h x y]
    exact (dec_and (by simp)).symm
theorem dq_L {α : Type} [DecidableEq α] {f : α → D} (h : DeqOk f) : DeqOk (eL f) := fun xs ys => deqs_map h xs ys
theorem dq_U {α : Type} [DecidableEq α] {f : α → D} (h : DeqOk f) : DeqOk (eU f) := fun xs ys => deqs_map h xs ys
theorem deq_lt {xs ys : List D} : deq (.node .lst xs) (.node .tup ys) = false := rfl
theorem deq_tl {xs ys : List D} : deq (.node .tup xs) (.node .lst ys) = false := rfl
theorem dq_Q {α : Type} [DecidableEq α] {f : α → D} (h : DeqOk f) : DeqOk (eQ f) := fun ⟨b, xs⟩ ⟨c, ys⟩ => by
  cases b <;> cases c
  · exact (deqs_map h xs ys).trans (by simp)
  · exact deq_lt.trans (by simp)
  · exact deq_tl.trans (by simp)
  · exact (deqs_map h xs ys).trans (by simp)
/-- item by item -/
def deqs : List D → List D → Bool
  | [], [] => true
  | d :: ds, e :: es => deq d e && deqs ds es
  | _, _ => false
theorem deqs_eq : ∀ ds es : List D, PyData.eqvAll (pys ds) (pys es) = deqs ds es
  | [], [] => rfl
  | [], e :: es => by simp [pys, PyData.eqvAll, deqs]
  | d :: ds, [] => by simp [pys, PyData.eqvAll, deqs]
  | d :: ds, e :: es => by
    show (PyData.eqv d.py e.py && PyData.eqvAll (pys ds) (pys es)) = (deq d e && deqs ds es)
    rw [deqs_eq ds es]
    rfl
theorem deq_tup {ds es : List D} : deq (.node .tup ds) (.node .tup es) = deqs ds es := deqs_eq ds es
theorem deq_lst {ds es : List D} : deq (.node .lst ds) (.node .lst es) = deqs ds es := deqs_eq ds es
theorem sp_int {n : Nat} : ShpOk n D.int := fun _ => shp_int
theorem sp_bl {n : Nat} : ShpOk n D.bl := fun _ => shp_bl
theorem sp_unit {n : Nat} : ShpOk n eU1 := fun _ => shp_non
theorem sp_opt {α : Type} {n : Nat} {f : α → D} (h : ShpOk n f) : ShpOk n (eO f) := fun x => by
  cases x with
  | none => exact shp_non
  | some a => exact h a
theorem sp_L {α : Type} {n : Nat} {f : α → D} (h : ShpOk n f) : ShpOk (n + 1) (eL f) := fun xs => shpL_map h xs
theorem sp_U {α : Type} {n : Nat} {f : α → D} (h : ShpOk n f) : ShpOk (n + 1) (eU f) := fun xs => shpL_map h xs
theorem sp_Q {α : Type} {n : Nat} {f : α → D} (h : ShpOk n f) : ShpOk (n + 1) (eQ f) := fun ⟨b, xs⟩ => by
  show shp (n + 1) (.node (sqS b) _) = true
  rw [shp_q]
  exact shpL_map h xs
theorem nn_int : NN D.int := fun _ z => nomatch z
theorem nn_bl : NN D.bl := fun _ z => nomatch z
theorem nn_str : NN D.str := fun _ z => nomatch z
theorem nn_L {α : Type} {f : α → D} : NN (eL f) := fun _ z => nomatch z
theorem nn_U {α : Type} {f : α → D} : NN (eU f) := fun _ z => nomatch z
theorem nn_Q {α : Type} {f : α → D} : NN (eQ f) := fun _ z => nomatch z
theorem gEq_of {d e : D} {b : Bool} (h1 : shp 64 d = true) (h2 : shp 64 e = true) (h : deq d e = b) (k : D → Prop) (hk : k (.bl b)) : gEq d e k := by
  subst h
  cases d <;> cases e <;> first | exact ⟨⟨h1, h2⟩, hk⟩ | skip
  · rw [deq_bl'] at hk; exact hk
  · rw [deq_int] at hk; exact hk
  · rw [deq_str'] at hk; exact hk
theorem gNe_of {d e : D} {b : Bool} (h1 : shp 64 d = true) (h2 : shp 64 e = true) (h : deq d e = b) (k : D → Prop) (hk : k (.bl (!b))) : gNe d e k := by
  subst h
  cases d <;> cases e <;> first | exact ⟨⟨h1, h2⟩, hk⟩ | skip
  · rw [deq_bl'] at hk; exact hk
  · rw [deq_int] at hk; exact hk
  · rw [deq_str'] at hk; exact hk
def memL {α : Type} [DecidableEq α] (x : α) (xs : List α) : Bool := decide (x ∈ xs)
@[simp] theorem memL_iff {α : Type} [DecidableEq α] {x : α} {xs : List α} : memL x xs = true ↔ x ∈ xs := by unfold memL; simp
theorem inL_map {α : Type} [DecidableEq α] {f : α → D} (h : DeqOk f) (x : α) (xs : List α) : inL (f x) (xs.map f) = decide (x ∈ xs) := by
  unfold inL
  rw [List.any_map]
  by_cases hm : x ∈ xs
  · rw [decide_eq_true hm, List.any_eq_true]
    exact ⟨x, hm, by show deq (f x) (f x) = true; rw [h x x]; simp⟩
  · rw [decide_eq_false hm, List.any_eq_false]
    intro y hy
    show ¬ deq (f y) (f x) = true
    rw [h y x]
    simp
    exact fun e => hm (e ▸ hy)
section
variable {env : En} {p q pa : PX} {pb pb' : PB} {ps : PAs} {pi : PI'} {r r' : R} {d e : D} {t u : T} {i j m n : Int} {s : Nat} {π : List Nat} {pin : Option V} {b c neg : Bool} {α β γ : Type} {f : α → D} {g : α → T} {xs ys : List α} {x y : α} {sp : Shape} {ks : List T} {F : List Addr}
theorem ev_eqD [DecidableEq α] (dq : DeqOk f) (s1 : shp 64 (f x) = true) (s2 : shp 64 (f y) = true) (h : Ev p env r) (h' : Ev q env r') (x1 : RdR env r (f x)) (x2 : RdR env r' (f y)) : Ev (PL.p2 gEq p q) env (vB (decide (x = y))) :=
  ev_two h h' x1 x2 (gEq_of s1 s2 (dq x y))
theorem et_eqD [DecidableEq α] (dq : DeqOk f) (s1 : shp 64 (f x) = true) (s2 : shp 64 (f y) = true) (h : Ev p env r) (h' : Ev q env r') (x1 : RdR env r (f x)) (x2 : RdR env r' (f y)) : Et (p2T gEq p q) env (decide (x = y)) :=
  et_two h h' x1 x2 (gEq_of s1 s2 (dq x y))
theorem ev_neD [DecidableEq α] (dq : DeqOk f) (s1 : shp 64 (f x) = true) (s2 : shp 64 (f y) = true) (h : Ev p env r) (h' : Ev q env r') (x1 : RdR env r (f x)) (x2 : RdR env r' (f y)) : Ev (PL.p2 gNe p q) env (vB (!decide (x = y))) :=
  ev_two h h' x1 x2 (gNe_of s1 s2 (dq x y))
theorem et_neD [DecidableEq α] (dq : DeqOk f) (s1 : shp 64 (f x) = true) (s2 : shp 64 (f y) = true) (h : Ev p env r) (h' : Ev q env r') (x1 : RdR env r (f x)) (x2 : RdR env r' (f y)) : Et (p2T gNe p q) env (!decide (x = y)) :=
  et_two h h' x1 x2 (gNe_of s1 s2 (dq x y))
theorem gEq_str {x y : Str} (k : D → Prop) (hk : k (.bl (decide (x = y)))) : gEq (.str x) (.str y) k := hk
theorem gNe_str {x y : Str} (k : D → Prop) (hk : k (.bl (!decide (x = y)))) : gNe (.str x) (.str y) k := hk
theorem ev_eqS {x y : Str} (h : Ev p env (vS (.str x))) (h' : Ev q env (vS (.str y))) : Ev (PL.p2 gEq p q) env (vB (decide (x = y))) := ev_two h h' rd_s rd_s gEq_str
theorem et_eqS {x y : Str} (h : Ev p env (vS (.str x))) (h' : Ev q env (vS (.str y))) : Et (p2T gEq p q) env (decide (x = y)) := et_two h h' rd_s rd_s gEq_str
theorem ev_neS {x y : Str} (h : Ev p env (vS (.str x))) (h' : Ev q env (vS (.str y))) : Ev (PL.p2 gNe p q) env (vB (!decide (x = y))) := ev_two h h' rd_s rd_s gNe_str
theorem et_neS {x y : Str} (h : Ev p env (vS (.str x))) (h' : Ev q env (vS (.str y))) : Et (p2T gNe p q) env (!decide (x = y)) := et_two h h' rd_s rd_s gNe_str
/-! x in a list, a tuple -/
def IsLT (sp : Shape) : Prop := sp = .lst ∨ sp = .tup
theorem islt_l : IsLT .lst := .inl rfl
theorem islt_t : IsLT .tup := .inr rfl
theorem islt_q : IsLT (sqS b) := by cases b <;> first | exact .inl rfl | exact .inr rfl
theorem gIn_of [DecidableEq α] (dq : DeqOk f) (s1 : shp 64 (f x) = true) (s2 : shpL 63 (xs.map f) = true) (hs : IsLT sp) (k : D → Prop) (hk : k (.bl (neg' neg (memL x xs)))) : gIn neg (f x) (.node sp (xs.map f)) k := by
  have e := inL_map dq x xs
  rcases hs with rfl | rfl
  · rw [gIn_l, e]; exact ⟨⟨s1, s2⟩, hk⟩
  · rw [gIn_t, e]; exact ⟨⟨s1, s2⟩, hk⟩
theorem ev_in [DecidableEq α] (dq : DeqOk f) (s1 : shp 64 (f x) = true) (s2 : shpL 63 (xs.map f) = true) (hs : IsLT sp) (h : Ev p env r) (h' : Ev q env r') (x1 : RdR env r (f x)) (x2 : RdR env r' (.node sp (xs.map f))) : Ev (PL.p2 (gIn false) p q) env (vB (memL x xs)) :=
  ev_two h h' x1 x2 (gIn_of dq s1 s2 hs (neg := false))
theorem et_in [DecidableEq α] (dq : DeqOk f) (s1 : shp 64 (f x) = true) (s2 : shpL 63 (xs.map f) = true) (hs : IsLT sp) (h : Ev p env r) (h' : Ev q env r') (x1 : RdR env r (f x)) (x2 : RdR env r' (.node sp (xs.map f))) : Et (p2T (gIn false) p q) env (memL x xs) :=
  et_two h h' x1 x2 (gIn_of dq s1 s2 hs (neg := false))
theorem ev_nin [DecidableEq α] (dq : DeqOk f) (s1 : shp 64 (f x) = true) (s2 : shpL 63 (xs.map f) = true) (hs : IsLT sp) (h : Ev p env r) (h' : Ev q env r') (x1 : RdR env r (f x)) (x2 : RdR env r' (.node sp (xs.map f))) : Ev (PL.p2 (gIn true) p q) env (vB (!memL x xs)) :=
  ev_two h h' x1 x2 (gIn_of dq s1 s2 hs (neg := true))
theorem et_nin [DecidableEq α] (dq : DeqOk f) (s1 : shp 64 (f x) = true) (s2 : shpL 63 (xs.map f) = true) (hs : IsLT sp) (h : Ev p env r) (h' : Ev q env r') (x1 : RdR env r (f x)) (x2 : RdR env r' (.node sp (xs.map f))) : Et (p2T (gIn true) p q) env (!memL x xs) :=
  et_two h h' x1 x2 (gIn_of dq s1 s2 hs (neg := true))
/-! is None -/
theorem gIs_opt {o : Option α} (nn : NN f) (k : D → Prop) (hk : k (.bl (neg' neg o.isNone))) : gIs neg (eO f o) .non k := by
  cases o with
  | none => exact hk
  | some a =>
    have := nn a
    show gIs neg (f a) .non k
    generalize f a = z at this
    cases z with
    | non => exact absurd rfl this
    | _ => exact hk
theorem ev_isN {o : Option α} (nn : NN f) (h : Ev p env r) (x1 : RdR env r (eO f o)) : Ev (PL.p2 (gIs false) p (pC .non)) env (vB o.isNone) := ev_two h ev_c x1 rd_s (gIs_opt nn (neg := false))
theorem et_isN {o : Option α} (nn : NN f) (h : Ev p env r) (x1 : RdR env r (eO f o)) : Et (p2T (gIs false) p (pC .non)) env o.isNone := et_two h ev_c x1 rd_s (gIs_opt nn (neg := false))
theorem ev_notN {o : Option α} (nn : NN f) (h : Ev p env r) (x1 : RdR env r (eO f o)) : Ev (PL.p2 (gIs true) p (pC .non)) env (vB (!o.isNone)) := ev_two h ev_c x1 rd_s (gIs_opt nn (neg := true))
theorem et_notN {o : Option α} (nn : NN f) (h : Ev p env r) (x1 : RdR env r (eO f o)) : Et (p2T (gIs true) p (pC .non)) env (!o.isNone) := et_two h ev_c x1 rd_s (gIs_opt nn (neg := true))
/-! ### displays -/
theorem ev_lst {rs : List R} {ts : List T} (h : Ea ps env rs) (e : vaL rs = some ts) (l : ts.length ≤ 1000) : Ev (pLst ps) env (.va (.node .lst ts)) := fun k hk => h _ ⟨ts, e, l, hk⟩
theorem ev_tup {rs : List R} {ts : List T} (h : Ea ps env rs) (e : vaL rs = some ts) (l : ts.length ≤ 1000) : Ev (pTup ps) env (vS (.node .tup (ts.map T.er))) := fun k hk => h _ ⟨ts, e, l, hk⟩
/-! ### subscripts -/
def IsSq (sp : Shape) : Prop := sp = .lst ∨ sp = .tup ∨ sp = .ro
theorem issq_l : IsSq .lst := .inl rfl
theorem issq_t : IsSq .tup := .inr (.inl rfl)
theorem issq_r : IsSq .ro := .inr (.inr rfl)
theorem issq_q : IsSq (sqS b) := by cases b <;> first | exact .inl rfl | exact .inr (.inl rfl)
theorem sub_of {ts : List T} {k : Nat → T → Prop} {j : Nat} {c : T} (hs : IsSq sp) (hk : t.kids = some (sp, ts)) (e : ixN ts.length i = some j) (e2 : ts[j]? = some c) (q : k j c) : subT t (.int i) k := by
  unfold subT
  rw [hk]
  rcases hs with rfl | rfl | rfl
  · exact ⟨i, j, c, rfl, e, e2, q⟩
  · exact ⟨i, j, c, rfl, e, e2, q⟩
  · exact ⟨i, j, c, rfl, e, e2, q⟩
/-- an item of a shared sequence -/
theorem ev_ixD {ds : List D} {j : Nat} (hs : IsSq sp) (h : Ev p env (vS (.node sp ds))) (h' : Ev q env (vI i)) (e : ixN ds.length i = some j) (e2 : ds[j]? = some d) : Ev (pIx p q) env (vS d) := fun k hk => h _ (h' _ ⟨_, _, rfl, rfl, by
  refine sub_of (j := j) (c := .s d) hs rfl (by rw [List.length_map]; exact e) (by rw [List.getElem?_map, e2]; rfl) ?_
  exact hk⟩)
theorem ev_ix (hs : IsSq sp) (h : Ev p env (vS (.node sp (xs.map f)))) (h' : Ev q env (vI i)) (e : atI xs i = some x) : Ev (pIx p q) env (vS (f x)) := by
  obtain ⟨j, a, b⟩ := atI_ix e
  exact ev_ixD hs h h' (by rw [List.length_map]; exact a) (by rw [List.getElem?_map, b]; rfl)
/-- an item of an owned list of shared things -/
theorem ev_ixB (h : Ev p env (.bo s π)) (hl : look env s π = some (oL (sh f) xs)) (h' : Ev q env (vI i)) (e : atI xs i = some x) : Ev (pIx p q) env (vS (f x)) := by
  obtain ⟨j, a, b⟩ := atI_ix e
  refine fun k hk => h _ (h' _ ⟨_, _, hl, rfl, ?_⟩)
  refine sub_of (j := j) (c := sh f x) issq_l rfl (by rw [List.length_map]; exact a) (by rw [List.getElem?_map, b]; rfl) ?_
  exact hk
/-- an owned thing in an owned list -/
theorem ev_ixBB {q1 : Shape} {k1 : List T} (h : Ev p env (.bo s π)) (hl : look env s π = some (oL g xs)) (h' : Ev q env (vI i)) (e : atI xs i = some x) (hg : g x = .node q1 k1) : ∃ j, j = nI xs.length i ∧ xs[j]? = some x ∧ Ev (pIx p q) env (.bo s (π ++ [j])) ∧ look env s (π ++ [j]) = some (g x) := by
  obtain ⟨j, a, b⟩ := atI_ix e
  have eg : (xs.map g)[j]? = some (g x) := by rw [List.getElem?_map, b]; rfl
  refine ⟨j, ixN_nI a, b, fun k hk => h _ (h' _ ⟨_, _, hl, rfl, ?_⟩), look_snoc hl rfl eg⟩
  refine sub_of (j := j) (c := g x) issq_l rfl (by rw [List.length_map]; exact a) eg ?_
  rw [hg]
  exact hk
/-- an item of a fresh list -/
theorem ev_ixO (h : Ev p env (.va (oL (sh f) xs))) (h' : Ev q env (vI i)) (e : atI xs i = some x) : Ev (pIx p q) env (vS (f x)) := by
  obtain ⟨j, a, b⟩ := atI_ix e
  refine fun k hk => h _ (h' _ ⟨_, _, rfl, rfl, ?_⟩)
  refine sub_of (j := j) (c := sh f x) issq_l rfl (by rw [List.length_map]; exact a) (by rw [List.getElem?_map, b]; rfl) ?_
  exact hk
theorem ev_ixOD {ts : List T} {j : Nat} (h : Ev p env (.va (.node .lst ts))) (h' : Ev q env (vI i)) (e : ixN ts.length i = some j) (e2 : ts[j]? = some (.s d)) : Ev (pIx p q) env (vS d) := fun k hk => h _ (h' _ ⟨_, _, rfl, rfl, by
  refine sub_of (j := j) (c := .s d) issq_l rfl e e2 ?_
  exact hk⟩)
theorem ev_ixBD {ts : List T} {j : Nat} (h : Ev p env (.bo s π)) (hl : look env s π = some (.node .lst ts)) (h' : Ev q env (vI i)) (e : ixN ts.length i = some j) (e2 : ts[j]? = some (.s d)) : Ev (pIx p q) env (vS d) := fun k hk => h _ (h' _ ⟨_, _, hl, rfl, by
  refine sub_of (j := j) (c := .s d) issq_l rfl e e2 ?_
  exact hk⟩)
/-! ### results to be taken over -/
def MvR (env : En) (r : R) (t : T) : Prop := r.mv env = some t
theorem mvr_va : MvR env (.va t) t := rfl
theorem mv_b (hl : look env s π = some t) (h : t.flat = true) : MvR env (.bo s π) t := by
  show (match look env s π with
      | some t => if t.flat = true then some t else none
      | none => none) = _
  rw [hl]
  exact if_pos h
theorem flat_oL : (oL (sh f) xs).flat = true := by
  rw [oL_sh]
  exact flat_map _
/-- t is the sequence xs of shared things -/
def SqT' (sp : Shape) (f : α → D) (xs : List α) (t : T) : Prop := t.kids = some (sp, xs.map (sh f))
theorem sq_s : SqT' sp f xs (.s (.node sp (xs.map f))) := by
  show some (sp, (xs.map f).map T.s) = _
  rw [List.map_map]
  rfl
theorem sq_o : SqT' .lst f xs (oL (sh f) xs) := rfl
theorem er_map : (xs.map (sh f)).map T.er = xs.map f := by rw [List.map_map]; rfl
theorem ev_list (hs : IsSq sp) (h : Ev p env r) (m : MvR env r t) (k : SqT' sp f xs t) : Ev (pC1 gList p) env (.va (oL (sh f) xs)) := fun z hz => h _ ⟨t, m, by
  unfold gList
  rw [k]
  rcases hs with rfl | rfl | rfl <;> exact hz⟩
theorem ev_tuple (hs : IsSq sp) (h : Ev p env r) (m : MvR env r t) (k : SqT' sp f xs t) : Ev (pC1 gTuple p) env (vS (eU f xs)) := fun z hz => h _ ⟨t, m, by
  have e := er_map (f := f) (xs := xs)
  unfold gTuple
  rw [k]
  rcases hs with rfl | rfl | rfl
  · show z (.va (.s (.node .tup ((xs.map (sh f)).map T.er)))); rw [e]; exact hz
  · show z (.va (.s (.node .tup ((xs.map (sh f)).map T.er)))); rw [e]; exact hz
  · show z (.va (.s (.node .tup ((xs.map (sh f)).map T.er)))); rw [e]; exact hz⟩
/-- tuple(..) of a tuple display's data -/
theorem ev_tupleD {ds : List D} (h : Ev p env (vS (.node .tup ds))) : Ev (pC1 gTuple p) env (vS (.node .tup ds)) := fun z hz => h _ ⟨_, rfl, by
  show z (.va (.s (.node .tup ((ds.map T.s).map T.er))))
  rw [er_s_map]
  exact hz⟩
theorem ev_cat2 {f : α → D} {xs ys : List α} {t u : T} (h : Ev p env r) (h' : Ev q env r') (m1 : MvR env r t) (m2 : MvR env r' u) (k1 : SqT' .lst f xs t) (k2 : SqT' .lst f ys u) (hl : xs.length + ys.length ≤ sizeLine) : Ev (pOp gAdd p q) env (.va (oL (sh f) (xs ++ ys))) := fun z hz => h _ (h' _ ⟨t, u, m1, m2, by
  have go : gAddK t.kids u.kids fun t => z (.va t) := by
    rw [k1, k2]
    refine ⟨by rw [List.length_map, List.length_map]; exact hl, ?_⟩
    rw [← List.map_append]
    exact hz
  unfold gAdd
  split
  · cases k1
  · cases k1
  · exact go⟩)
theorem ev_catU {f : α → D} {xs ys : List α} (h : Ev p env (vS (eU f xs))) (h' : Ev q env (vS (eU f ys))) (hl : xs.length + ys.length ≤ sizeLine) : Ev (pOp gAdd p q) env (vS (eU f (xs ++ ys))) := fun z hz => h _ (h' _ ⟨_, _, rfl, rfl, by
  show ((xs.map f).map T.s).length + ((ys.map f).map T.s).length ≤ sizeLine ∧ z (.va (.s (.node .tup (((xs.map f).map T.s).map T.er ++ ((ys.map f).map T.s).map T.er))))
  refine ⟨by simp only [List.length_map]; exact hl, ?_⟩
  rw [er_s_map, er_s_map, ← List.map_append]
  exact hz⟩)
def repL (xs : List α) (n : Int) : List α := (List.replicate n.toNat xs).flatten
theorem ev_rep {f : α → D} {xs : List α} {t : T} (h : Ev p env r) (h' : Ev q env (vI n)) (m1 : MvR env r t) (k1 : SqT' .lst f xs t) (hc : -9223372036854775808 ≤ n ∧ n < 9223372036854775808 ∧ xs.length * n.toNat ≤ sizeLine) : Ev (pOp gMul p q) env (.va (oL (sh f) (repL xs n))) := fun z hz => h _ (h' _ ⟨t, _, m1, rfl, by
  have go : gMulK t.kids n fun t => z (.va t) := by
    rw [k1]
    refine ⟨⟨?_, hc.1, hc.2.1, by rw [List.length_map]; exact hc.2.2⟩, ?_⟩
    · have : xs.map (sh f) = (xs.map f).map T.s := by rw [List.map_map]; rfl
      rw [this]
      exact flat_map _
    · rw [PL.rep_map]
      exact hz
  unfold gMul
  split
  · cases k1
  · rename_i e; cases e; exact go
  · simp_all⟩)
/-! slices -/
def EvO (p : PO') (env : En) (o : Option Int) : Prop := ∀ k : Option Int → Prop, k o → p env k
theorem eo_no : EvO pNoPart env none := fun k hk => hk
theorem eo_part (h : Ev p env (vI i)) : EvO (pPart p) env (some i) := fun k hk => h _ ⟨i, rfl, hk⟩
theorem ev_slL {pl ph : PO'} {lo hi : Option Int} (h : Ev p env r) (m : MvR env r t) (k : SqT' .lst f xs t) (h1 : EvO pl env lo) (h2 : EvO ph env hi) : Ev (pSl p pl ph) env (.va (oL (sh f) (cutL xs lo hi))) := fun z hz => h _ (h1 _ (h2 _ ⟨t, m, by
  unfold gSl
  rw [k]
  show z (.va (.node .lst (cutL (xs.map (sh f)) lo hi)))
  rw [cutL_map]
  exact hz⟩))
theorem ev_slU {pl ph : PO'} {lo hi : Option Int} (h : Ev p env r) (m : MvR env r t) (k : SqT' .tup f xs t) (h1 : EvO pl env lo) (h2 : EvO ph env hi) : Ev (pSl p pl ph) env (vS (eU f (cutL xs lo hi))) := fun z hz => h _ (h1 _ (h2 _ ⟨t, m, by
  unfold gSl
  rw [k]
  show z (.va (.s (.node .tup ((cutL (xs.map (sh f)) lo hi).map T.er))))
  rw [cutL_map, er_map]
  exact hz⟩))
theorem ev_rev (h : Ev p env r) (m : MvR env r t) (k : SqT' .lst f xs t) : Ev (pRev p) env (.va (oL (sh f) xs.reverse)) := fun z hz => h _ ⟨t, _, m, k, by
  rw [← List.map_reverse]
  exact hz⟩
/-! ### built-in calls by what their arguments are -/
def RdL (env : En) (rs : List R) (ds : List D) : Prop := datsR env rs = some ds
theorem rl_nil : RdL env [] [] := rfl
theorem rl_cons {rs : List R} {ds : List D} (h : RdR env r d) (h' : RdL env rs ds) : RdL env (r :: rs) (d :: ds) := by
  obtain ⟨t, e, rfl⟩ := h
  unfold RdL datsR
  rw [e, show datsR env rs = some ds from h']
theorem ev_cb {rs : List R} {ds : List D} {gg : List D → (D → Prop) → Prop} (h : Ea ps env rs) (l : RdL env rs ds) (w : ∀ k : D → Prop, k d → gg ds k) : Ev (pCB gg ps) env (vS d) := fun k hk => h _ ⟨ds, l, w _ hk⟩
theorem ev_cb1 {gg : List D → (D → Prop) → Prop} (h : Ev p env r) (l : RdR env r e) (w : ∀ k : D → Prop, k d → gg [e] k) : Ev (pCB gg (pCons p pNil)) env (vS d) := ev_cb (ea_cons h ea_nil) (rl_cons l rl_nil) w
theorem ev_len {ds : List D} {n : Nat} (hs : IsSq sp) (h : Ev p env r) (l : RdR env r (.node sp ds)) (e : ds.length = n) : Ev (pCB gLen (pCons p pNil)) env (vI n) := ev_cb1 h l fun k hk => by
  subst e
  rcases hs with rfl | rfl | rfl <;> exact hk
theorem ev_lenS {x : Str} (h : Ev p env (vS (.str x))) (c : x.length ≤ sizeLine) : Ev (pCB gLen (pCons p pNil)) env (vI x.length) := ev_cb1 h rd_s fun k hk => ⟨c, hk⟩
theorem ev_int (h : Ev p env (vI m)) : Ev (pCB gInt (pCons p pNil)) env (vI m) := ev_cb1 h rd_s fun k hk => hk
theorem ev_intB (h : Ev p env (vB b)) : Ev (pCB gInt (pCons p pNil)) env (vI (if b = true then 1 else 0)) := ev_cb1 h rd_s fun k hk => hk
theorem ev_abs (h : Ev p env (vI m)) : Ev (pCB gAbs (pCons p pNil)) env (vI (if m < 0 then -m else m)) := ev_cb1 h rd_s fun k hk => hk
theorem ev_sum {ns : List Int} (h : Ev p env r) (l : RdR env r (eL D.int ns)) : Ev (pCB gSum (pCons p pNil)) env (vI ns.sum) := ev_cb1 h l fun k hk => ⟨ns, intsD_map ns, hk⟩
theorem ev_min2 (h : Ev p env (vI m)) (h' : Ev q env (vI n)) : Ev (pCB gMin (pCons p (pCons q pNil))) env (vI (if n < m then n else m)) := ev_cb (ea_cons h (ea_cons h' ea_nil)) (rl_cons rd_s (rl_cons rd_s rl_nil)) fun k hk => hk
theorem ev_max2 (h : Ev p env (vI m)) (h' : Ev q env (vI n)) : Ev (pCB gMax (pCons p (pCons q pNil))) env (vI (if n > m then n else m)) := ev_cb (ea_cons h (ea_cons h' ea_nil)) (rl_cons rd_s (rl_cons rd_s rl_nil)) fun k hk => hk
theorem ev_minL {ns : List Int} (h : Ev p env r) (l : RdR env r (eL D.int ns)) (e : ns.min? = some m) : Ev (pCB gMin (pCons p pNil)) env (vI m) := ev_cb1 h l fun k hk => ⟨ns, intsD_map ns, by
  cases ns with
  | nil => cases e
  | cons a as => simp, fun x hx hm => by
  have h1 := List.min?_eq_some_iff.mp e
  have := Int.le_antisymm (hm _ h1.1) (h1.2 x hx)
  rw [this]; exact hk⟩
theorem ev_maxL {ns : List Int} (h : Ev p env r) (l : RdR env r (eL D.int ns)) (e : ns.max? = some m) : Ev (pCB gMax (pCons p pNil)) env (vI m) := ev_cb1 h l fun k hk => ⟨ns, intsD_map ns, by
  cases ns with
  | nil => cases e
  | cons a as => simp, fun x hx hm => by
  have h1 := List.max?_eq_some_iff.mp e
  have := Int.le_antisymm (h1.2 x hx) (hm _ h1.1)
  rw [this]; exact hk⟩
theorem ev_isi {T' ty : String} (h : Ev p env r) (l : RdR env r d) (e : tyD d = some ty) : Ev (pIsi T' p) env (vB (isiT T' ty)) := fun k hk => h _ (by
  obtain ⟨t, e1, e2⟩ := l
  exact ⟨t, ty, e1, by rw [e2]; exact e, hk⟩)
/-- sorted, of whole numbers -/
def sortI (ns : List Int) : List Int := ns.mergeSort fun a b => decide (a ≤ b)
theorem sortI_perm (ns : List Int) : (sortI ns).Perm ns := List.mergeSort_perm _ _
theorem sortI_le (ns : List Int) : (sortI ns).Pairwise (· ≤ ·) := (List.pairwise_mergeSort (le := fun a b => decide (a ≤ b)) (fun a b c h1 h2 => by simp at *; omega) (fun a b => by simp; omega) ns).imp fun h => by simpa using h
theorem sortI_uniq {ns ns' : List Int} (h : ns'.Perm ns) (h' : ns'.Pairwise (· ≤ ·)) : ns' = sortI ns :=
  List.Perm.eq_of_pairwise (fun a b _ _ h1 h2 => by omega) h' (sortI_le ns) (h.trans (sortI_perm ns).symm)
end
end PL

/-! The typed layer, part 3: what is walked, targets, comprehensions, statements, loops, calls. -/
namespace PL
open PySem L2
def rng3 (m n c : Int) : List Int := (List.range (cntC m n c)).map fun i => m + ((i : Nat) : Int) * c
section
variable {env e2 : En} {p q pa : PX} {pb pb' pt : PB} {ps : PAs} {pi : PI'} {r r' : R} {d e : D} {t u : T} {i j m n : Int} {s : Nat} {π : List Nat} {pin : Option V} {b c neg : Bool} {α β γ σ ρ : Type} {f : α → D} {g : α → T} {xs ys : List α} {x y : α} {sp : Shape} {ks : List T} {F : List Addr} {pd : PEnds} {cl : Cell} {tgt : Tgt} {vs : List Nat} {lock : Option Nat} {src : Bool}
/-! ### what is walked -/
theorem rng_map0 : rngL 0 n.toNat = (rng 0 n).map D.int := by
  unfold rng rngL
  rw [List.map_map]
  simp
theorem rng_map : rngL m (n - m).toNat = (rng m n).map D.int := by
  unfold rng rngL
  rw [List.map_map]
  rfl
theorem rng_len : (rng m n).length = (n - m).toNat := by unfold rng; simp
theorem ei_rng1 (h : Ev p env (vI n)) (c : -4611686018427387904 ≤ n ∧ n < 4611686018427387904) : Ei (pRng1 p) env ⟨(rng 0 n).map D.int, none, false⟩ := fun k hk => h _ ⟨n, rfl, c, by rw [rng_map0]; exact hk⟩
theorem ei_rng2 (h : Ev p env (vI m)) (h' : Ev q env (vI n)) (c : -4611686018427387904 ≤ m ∧ m < 4611686018427387904 ∧ -4611686018427387904 ≤ n ∧ n < 4611686018427387904) : Ei (pRng2 p q) env ⟨(rng m n).map D.int, none, false⟩ := fun k hk => h _ (h' _ ⟨m, n, rfl, rfl, c, by rw [rng_map]; exact hk⟩)
theorem ei_rng3 {c : Int} {p3 : PX} (h : Ev p env (vI m)) (h' : Ev q env (vI n)) (h'' : Ev p3 env (vI c)) (g : (-2305843009213693952 ≤ m ∧ m < 2305843009213693952 ∧ -2305843009213693952 ≤ n ∧ n < 2305843009213693952) ∧ (0 < c ∧ c < 1073741824)) : Ei (pRng3 p q p3) env ⟨(rng3 m n c).map D.int, none, false⟩ := fun k hk => h _ (h' _ (h'' _ ⟨m, n, c, rfl, rfl, rfl, g, by
  have e : rngC m c (cntC m n c) = (rng3 m n c).map D.int := by unfold rngC rng3; rw [List.map_map]; rfl
  rw [e]
  exact hk⟩))
theorem ei_seqD {ds : List D} (hs : IsSq sp) (h : Ev p env (vS (.node sp ds))) : Ei (pSeqI p) env ⟨ds, none, true⟩ := fun k hk => h _ ⟨_, rfl, by rcases hs with rfl | rfl | rfl <;> exact hk⟩
theorem ei_seq (hs : IsSq sp) (h : Ev p env (vS (.node sp (xs.map f)))) : Ei (pSeqI p) env ⟨xs.map f, none, true⟩ := ei_seqD hs h
theorem ei_seqO (er : Er g f) (h : Ev p env (.va (oL g xs))) : Ei (pSeqI p) env ⟨xs.map f, none, true⟩ := fun k hk => h _ ⟨_, rfl, by
  show k ⟨(xs.map g).map T.er, none, true⟩
  rw [List.map_map, show T.er ∘ g = f from funext er]
  exact hk⟩
theorem ei_seqB (h : Ev p env (.bo s π)) (hl : look env s π = some (oL (sh f) xs)) : Ei (pSeqI p) env ⟨xs.map f, some s, true⟩ := fun k hk => h _ ⟨_, hl, by
  have e1 : oL (sh f) xs = .node .lst ((xs.map f).map T.s) := oL_sh
  rw [e1]
  refine ⟨flat_map _, ?_⟩
  rw [er_s_map]
  exact hk⟩
/-! ### targets -/
def Jk (c : Cell) : Prop := c = .un ∨ ∃ t, c = .own none t
theorem jk_un : Jk .un := .inl rfl
theorem jk_own : Jk (.own none t) := .inr ⟨t, rfl⟩
theorem st_nm (h : env[s]? = some cl) (hj : Jk cl) : setT (.nm s) d env = some (env.set s (.own none (.s d))) := by
  show setN s d env = _
  unfold setN
  rw [h]
  rcases hj with rfl | ⟨t, rfl⟩ <;> rfl
theorem st_tup {ts : List Tgt} {ds : List D} (h : setTs ts ds env = some e2) : setT (.tup ts) (.node .tup ds) env = some e2 := h
theorem st_lst {ts : List Tgt} {ds : List D} (h : setTs ts ds env = some e2) : setT (.tup ts) (.node .lst ds) env = some e2 := h
theorem st_q {ts : List Tgt} {ds : List D} (h : setTs ts ds env = some e2) : setT (.tup ts) (.node (sqS b) ds) env = some e2 := by cases b <;> exact h
theorem sts_nil : setTs [] [] env = some env := rfl
theorem sts_cons {tg : Tgt} {ts : List Tgt} {ds : List D} {e1 : En} (h : setT tg d env = some e1) (h' : setTs ts ds e1 = some e2) : setTs (tg :: ts) (d :: ds) env = some e2 := by
  show (match setT tg d env with
    | some env1 => setTs ts ds env1
    | none => none) = _
  rw [h]
  exact h'
theorem so_jk (h : env[s]? = some cl) (hj : Jk cl) : setO s t env = some (env.set s (.own none t)) := by
  unfold setO
  rw [h]
  rcases hj with rfl | ⟨t, rfl⟩ <;> rfl
def un2 {α : Type} : List α → Option (α × α)
  | [a, b] => some (a, b)
  | _ => none
def un3 {α : Type} : List α → Option (α × α × α)
  | [a, b, c] => some (a, b, c)
  | _ => none
def un4 {α : Type} : List α → Option (α × α × α × α)
  | [a, b, c, d] => some (a, b, c, d)
  | _ => none
theorem un2E {xs : List α} {y : α × α} (h : un2 xs = some y) : xs = [y.1, y.2] := by
  unfold un2 at h
  split at h
  · cases h; rfl
  · cases h
theorem un3E {xs : List α} {y : α × α × α} (h : un3 xs = some y) : xs = [y.1, y.2.1, y.2.2] := by
  unfold un3 at h
  split at h
  · cases h; rfl
  · cases h
theorem un4E {xs : List α} {y : α × α × α × α} (h : un4 xs = some y) : xs = [y.1, y.2.1, y.2.2.1, y.2.2.2] := by
  unfold un4 at h
  split at h
  · cases h; rfl
  · cases h
/-! ### comprehensions -/
theorem et_yes : Et pYes env true := fun k hk => hk
theorem ev_lcF {c : α → Bool} {y : α → β} {g : β → T} (hi : Ei pi env ⟨xs.map f, lock, src⟩) (hb : src = true ∨ xs.length ≤ 16777216)
    (ht : ∀ x, ∃ e2, setT tgt (f x) (wipeE env vs) = some e2 ∧ Et pt e2 (c x) ∧ Ev pa e2 (.va (g (y x)))) : Ev (pLc pi tgt pt pa vs) env (.va (oL g ((xs.filter c).map y))) := fun k hk => hi _ (by
  refine lc_filter c (fun x => g (y x)) hb (fun i h Y N h1 h2 => ?_) (by unfold oL at hk; rw [List.map_map] at hk; exact hk)
  obtain ⟨e2, a1, a2, a3⟩ := ht xs[i]
  refine ⟨e2, a1, a2 _ ?_⟩
  cases hc : c xs[i] with
  | true => exact a3 _ ⟨_, rfl, h1 hc⟩
  | false => exact h2 hc)
theorem ev_lcM {y : α → β} {g : β → T} (hi : Ei pi env ⟨xs.map f, lock, src⟩) (hb : src = true ∨ xs.length ≤ 16777216)
    (ht : ∀ x, ∃ e2, setT tgt (f x) (wipeE env vs) = some e2 ∧ Ev pa e2 (.va (g (y x)))) : Ev (pLc pi tgt pYes pa vs) env (.va (oL g (xs.map y))) := by
  have := ev_lcF (c := fun _ => true) (y := y) (g := g) (pt := pYes) hi hb fun x => by
    obtain ⟨e2, a, b⟩ := ht x
    exact ⟨e2, a, et_yes, b⟩
  rw [List.filter_eq_self.mpr (fun _ _ => rfl)] at this
  exact this
theorem lcO_snoc {b : α → Option (Option β)} : ∀ {xs : List α} {x : α} {ys : List β}, lcO b (xs ++ [x]) = some ys → ∃ zs o, lcO b xs = some zs ∧ b x = some o ∧ ys = zs ++ o.toList
  | [], x, ys, h => by
    obtain ⟨o, h1, h⟩ := bindE h
    obtain ⟨zs, h2, h⟩ := bindE h
    cases h2
    refine ⟨[], o, rfl, h1, ?_⟩
    cases o <;> cases h <;> rfl
  | z :: xs, x, ys, h => by
    obtain ⟨o, h1, h⟩ := bindE h
    obtain ⟨zs, h2, h⟩ := bindE h
    obtain ⟨ws, o2, h3, h4, rfl⟩ := lcO_snoc h2
    cases o with
    | none =>
      cases h
      refine ⟨ws, o2, ?_, h4, rfl⟩
      show (b z).bind _ = _
      rw [h1]
      show (lcO b xs).bind _ = _
      rw [h3]
      rfl
    | some w =>
      cases h
      refine ⟨w :: ws, o2, ?_, h4, rfl⟩
      show (b z).bind _ = _
      rw [h1]
      show (lcO b xs).bind _ = _
      rw [h3]
      rfl
theorem lcO_take {b : α → Option (Option β)} : ∀ {xs : List α} {ys : List β} (k : Nat), lcO b xs = some ys → ∃ zs, lcO b (xs.take k) = some zs
  | [], ys, k, h => by rw [List.take_nil]; exact ⟨ys, h⟩
  | x :: xs, ys, 0, h => ⟨[], rfl⟩
  | x :: xs, ys, k + 1, h => by
    obtain ⟨o, h1, h⟩ := bindE h
    obtain ⟨zs, h2, h⟩ := bindE h
    obtain ⟨ws, h3⟩ := lcO_take k h2
    rw [List.take_succ_cons]
    show ∃ z, (b x).bind _ = some z
    rw [h1]
    show ∃ z, (lcO b (xs.take k)).bind _ = some z
    rw [h3]
    cases o <;> exact ⟨_, rfl⟩
/-- one turn of a comprehension that may fail -/
def LcTurn (tgt : Tgt) (pt : PB) (pa : PX) (env : En) (g : β → T) (d : D) (o : Option β) : Prop := ∃ e2, setT tgt d env = some e2 ∧ ∃ t, Et pt e2 t ∧ (t = true → ∃ y, o = some y ∧ Ev pa e2 (.va (g y))) ∧ (t = false → o = none)
theorem ev_lcO {b : α → Option (Option β)} {zs : List β} {g : β → T} (hi : Ei pi env ⟨xs.map f, lock, src⟩) (hb : src = true ∨ xs.length ≤ 16777216) (h : lcO b xs = some zs)
    (ht : ∀ x o, b x = some o → LcTurn tgt pt pa (wipeE env vs) g (f x) o) : Ev (pLc pi tgt pt pa vs) env (.va (oL g zs)) := fun k hk => hi _ (by
  refine lc_inv (fun i acc => ∃ ys, lcO b (xs.take i) = some ys ∧ acc = ys.map g) (by rw [List.length_map]; exact hb) ⟨[], rfl, rfl⟩ (fun i d acc e hi l q => ?_) (fun acc _ q => ?_)
  · obtain ⟨ys, q1, rfl⟩ := q
    obtain ⟨hi', rfl⟩ := map_some e
    obtain ⟨ws, hw⟩ := lcO_take (i + 1) h
    have hw' := hw
    rw [take_snoc hi'] at hw'
    obtain ⟨v1, o, w1, w2, w3⟩ := lcO_snoc hw'
    rw [q1] at w1
    cases w1
    obtain ⟨e2, a1, t, a2, a3, a4⟩ := ht _ _ w2
    refine ⟨e2, a1, a2 _ ?_⟩
    cases t with
    | true =>
      obtain ⟨y, rfl, ev⟩ := a3 rfl
      refine ev _ ⟨_, rfl, ws, hw, ?_⟩
      rw [w3]
      simp
    | false =>
      have := a4 rfl
      subst this
      exact ⟨ws, hw, by rw [w3]; simp⟩
  · obtain ⟨ys, q1, rfl⟩ := q
    rw [List.length_map, List.take_length, h] at q1
    cases q1
    exact hk)
/-- the turn's parts, by what the function's text says -/
theorem lct_yes {y : β} {g : β → T} {o : Option β} (hs : setT tgt d env = some e2) (h : some y = o) (hv : Ev pa e2 (.va (g y))) : LcTurn tgt pYes pa env g d o := ⟨e2, hs, true, et_yes, (fun _ => ⟨y, h.symm, hv⟩), fun z => nomatch z⟩
theorem lct_if {g : β → T} {o : Option β} {w : Option (Option β)} {tb : Bool} (hs : setT tgt d env = some e2) (ht : Et pt e2 tb) (h : (if tb = true then w else some none) = some o) (hv : tb = true → w = some o → ∃ y, o = some y ∧ Ev pa e2 (.va (g y))) : LcTurn tgt pt pa env g d o := ⟨e2, hs, tb, ht, (fun z => hv z (by rw [if_pos z] at h; exact h)), fun z => by
  subst z
  cases h
  rfl⟩
/-! ### statements -/
variable {st q' : PSt} {pm : PXM} {k : Nat}
theorem sq (h : st { pd with nx := q' pd } env) : pSeq st q' pd env := h
theorem s_nx (h : pd.nx env) : pNext pd env := h
theorem nx_ (q : PSt) (h : q pd env) : PEnds.nx { pd with nx := q pd } env := h
theorem s_bk (h : pd.bk env) : pBreak pd env := h
theorem s_ct (h : pd.ct env) : pCont pd env := h
theorem s_asg (h : Ev p env (.va t)) (e : t = u) (hc : env[k]? = some cl) (hj : Jk cl) (h' : pd.nx (env.set k (.own none u))) : pAsg k (pLift p) pd env := h _ ⟨t, rfl, _, so_jk hc hj, by rw [e]; exact h'⟩
theorem s_asgF (h : Ev p env (.va t)) (e : t.er = d) (hc : env[k]? = some cl) (hj : Jk cl) (h' : pd.nx (env.set k (.own none (.s d)))) : pAsgF k (pLift p) pd env := h _ ⟨t, rfl, _, so_jk hc hj, by rw [e]; exact h'⟩
theorem s_asgT (h : Ev p env (vS d)) (hs : setT tgt d env = some e2) (h' : pd.nx e2) : pAsgT tgt (pLift p) pd env := h _ ⟨_, rfl, d, e2, rfl, hs, h'⟩
theorem s_ret (h : Ev p env (.va t)) (e : t = u) (h' : pd.rt u env) : pRet (pLift p) pd env := h _ ⟨t, rfl, by rw [e]; exact h'⟩
theorem s_retM (h : env[k]? = some (.own none t)) (h' : pd.rt t (env.set k .un)) : pRet (pMove k) pd env := by
  show pMove k env _
  unfold pMove
  rw [h]
  exact h'
theorem s_retN (h' : pd.rt (.s .non) env) : pRetN pd env := h'
theorem s_if {a a' : PSt} (h : Et pb env b) (h1 : b = true → a pd env) (h2 : b = false → a' pd env) : pIf pb a a' pd env := h _ (by
  cases b with
  | true => exact h1 rfl
  | false => exact h2 rfl)
theorem s_drop (h : Ev p env (.va t)) (h' : pd.nx env) : pDrop (pLift p) pd env := h _ ⟨t, rfl, h'⟩
theorem s_frz (h : env[k]? = some (.own none t)) (e : t.er = d) (h' : st pd (env.set k (.own none (.s d)))) : pFrz k st pd env := by
  unfold pFrz
  rw [h]
  show st pd _
  rw [e]
  exact h'
/-- name.append(e) -/
theorem s_app (hc : env[s]? = some (.own pin (oL g xs))) (hl : xs.length < 16777216) (h : Ev p env (.va t)) (e : t = g x) (ez : xs ++ [x] = ys) (h' : pd.nx (env.set s (.own pin (oL g ys)))) : pApp (pVar s) p pd env := by
  subst ez
  exact ev_b (ks := xs.map g) (shp' := .lst) hc _ ⟨s, [], pin, oL g xs, xs.map g, rfl, hc, (by unfold T.at; rfl), (by rw [List.length_map]; exact hl), h _ ⟨t, rfl, by
  show pd.nx (env.set s (.own pin (.node .lst (xs.map g ++ [t]))))
  subst e
  unfold oL at h'
  rw [List.map_append] at h'
  exact h'⟩⟩
def setAt (xs : List α) (i : Int) (x : α) : List α := xs.set (nI xs.length i) x
theorem putAt_one {ts : List T} {j : Nat} {c c' : T} {sp : Shape} (e : ts[j]? = some c) : (T.node sp ts).putAt [j] c' = .node sp (ts.set j c') := by
  unfold T.putAt
  rw [e]
  show T.node sp (ts.set j (c.putAt [] c')) = _
  unfold T.putAt
  rfl
/-- name[i].append(e) -/
theorem s_app1 {g2 : β → T} {xss : List (List β)} {l : List β} {y : β} (hc : env[s]? = some (.own pin (oL (oL g2) xss))) (hi : Ev q env (vI i)) (e1 : atI xss i = some l) (hl : l.length < 16777216) (h : Ev p env (.va t)) (e : t = g2 y) {zss : List (List β)} (ez : setAt xss i (l ++ [y]) = zss) (h' : pd.nx (env.set s (.own pin (oL (oL g2) zss)))) : pApp (pIx (pVar s) q) p pd env := by
  subst ez
  obtain ⟨j, ej, ex, hv, hk⟩ := ev_ixBB (g := oL g2) (ev_b (ks := xss.map (oL g2)) (shp' := .lst) hc) (look_own hc) hi e1 rfl
  refine hv _ ⟨s, [] ++ [j], pin, oL (oL g2) xss, l.map g2, rfl, hc, ?_, (by rw [List.length_map]; exact hl), h _ ⟨t, rfl, ?_⟩⟩
  · unfold look at hk
    rw [hc] at hk
    exact hk
  · subst e
    have eg : (xss.map (oL g2))[j]? = some (oL g2 l) := by rw [List.getElem?_map, ex]; rfl
    show pd.nx (env.set s (.own pin ((T.node .lst (xss.map (oL g2))).putAt [j] _)))
    rw [putAt_one eg]
    unfold setAt at h'
    rw [← ej] at h'
    have e3 : oL (oL g2) (xss.set j (l ++ [y])) = .node .lst ((xss.map (oL g2)).set j (.node .lst (l.map g2 ++ [g2 y]))) := by
      unfold oL
      rw [List.map_set, List.map_append]
      rfl
    rw [e3] at h'
    exact h'
/-- name[i] = e -/
theorem s_set (hc : env[s]? = some (.own pin (oL g xs))) (h : Ev p env (.va t)) (e : t = g y) (hi : Ev q env (vI i)) (e1 : atI xs i = some x) (ez : setAt xs i y = ys) (h' : pd.nx (env.set s (.own pin (oL g ys)))) : pSetI (pLift p) (pVar s) q pd env := by
  subst ez
  obtain ⟨j, a, b⟩ := atI_ix e1
  refine h _ ⟨t, rfl, ev_b (ks := xs.map g) (shp' := .lst) hc _ (hi _ ⟨s, [], pin, oL g xs, oL g xs, .s (.int i), rfl, hc, (by unfold T.at; rfl), rfl, i, j, rfl, by rw [List.length_map]; exact a, ?_⟩)⟩
  subst e
  show pd.nx (env.set s (.own pin (T.putAt (oL g xs) [] _)))
  unfold T.putAt
  unfold setAt at h'
  rw [← ixN_nI a] at h'
  unfold oL at h'
  rw [List.map_set] at h'
  exact h'
/-- name[i][j] = e -/
theorem s_set1 {g2 : β → T} {xss : List (List β)} {l : List β} {y z : β} {q2 : PX} (hc : env[s]? = some (.own pin (oL (oL g2) xss))) (h : Ev p env (.va t)) (e : t = g2 y) (hi : Ev q env (vI i)) (e1 : atI xss i = some l) (hj : Ev q2 env (vI j)) (e2 : atI l j = some z) {zss : List (List β)} (ez : setAt xss i (setAt l j y) = zss) (h' : pd.nx (env.set s (.own pin (oL (oL g2) zss)))) : pSetI (pLift p) (pIx (pVar s) q) q2 pd env := by
  subst ez
  obtain ⟨k, ej, ex, hv, hk⟩ := ev_ixBB (g := oL g2) (ev_b (ks := xss.map (oL g2)) (shp' := .lst) hc) (look_own hc) hi e1 rfl
  obtain ⟨k2, a, b⟩ := atI_ix e2
  refine h _ ⟨t, rfl, hv _ (hj _ ⟨s, [] ++ [k], pin, oL (oL g2) xss, oL g2 l, .s (.int j), rfl, hc, ?_, rfl, j, k2, rfl, by rw [List.length_map]; exact a, ?_⟩)⟩
  · unfold look at hk
    rw [hc] at hk
    exact hk
  · subst e
    have eg : (xss.map (oL g2))[k]? = some (oL g2 l) := by rw [List.getElem?_map, ex]; rfl
    show pd.nx (env.set s (.own pin ((T.node .lst (xss.map (oL g2))).putAt [k] _)))
    rw [putAt_one eg]
    unfold setAt at h'
    rw [← ej, ← ixN_nI a] at h'
    have e3 : oL (oL g2) (xss.set k (l.set k2 y)) = .node .lst ((xss.map (oL g2)).set k (.node .lst ((l.map g2).set k2 (g2 y)))) := by
      unfold oL
      rw [List.map_set, List.map_set]
    rw [e3] at h'
    exact h'
/-! name.pop(), name.pop(i) -/
theorem p_pop (hc : env[s]? = some (.own pin (oL g xs))) (e : atI xs (-1) = some x) (k : T → En → Prop) (h : k (g x) (env.set s (.own pin (oL g xs.dropLast)))) : pPop s env k := by
  obtain ⟨j, a, b⟩ := atI_ix e
  have hj : j = xs.length - 1 := by
    have := ixN_nI a
    unfold nI at this
    rw [if_neg (by decide)] at this
    omega
  subst hj
  refine ⟨pin, xs.map g, g x, hc, by rw [List.length_map, List.getElem?_map, b]; rfl, ?_⟩
  unfold oL at h
  rw [← List.map_dropLast]
  exact h
def eraseAt (xs : List α) (i : Int) : List α := xs.eraseIdx (nI xs.length i)
theorem p_popAt (hc : env[s]? = some (.own pin (oL g xs))) (hi : Ev q env (vI i)) (c : -4611686018427387904 ≤ i ∧ i < 4611686018427387904) (e : atI xs i = some x) (k : T → En → Prop) (h : k (g x) (env.set s (.own pin (oL g (eraseAt xs i))))) : pPopAt s q env k := by
  obtain ⟨j, a, b⟩ := atI_ix e
  refine ⟨pin, xs.map g, hc, hi _ ⟨i, j, g x, rfl, c.1, c.2, by rw [List.length_map]; exact a, by rw [List.getElem?_map, b]; rfl, ?_⟩⟩
  unfold oL eraseAt at h
  rw [← ixN_nI a] at h
  have : (xs.map g).eraseIdx j = (xs.eraseIdx j).map g := by rw [List.eraseIdx_eq_take_drop_succ, List.eraseIdx_eq_take_drop_succ, List.map_append, List.map_take, List.map_drop]
  rw [this]
  exact h
/-- an expression that takes something out of a name's list, as a judgement -/
def EvM (p : PXM) (env : En) (t : T) (env' : En) : Prop := ∀ k : T → En → Prop, k t env' → p env k
theorem m_pop (hc : env[s]? = some (.own pin (oL g xs))) (e : atI xs (-1) = some x) (ez : xs.dropLast = ys) : EvM (pPop s) env (g x) (env.set s (.own pin (oL g ys))) := fun k h => by subst ez; exact p_pop hc e k h
theorem m_popAt (hc : env[s]? = some (.own pin (oL g xs))) (hi : Ev q env (vI i)) (c : -4611686018427387904 ≤ i ∧ i < 4611686018427387904) (e : atI xs i = some x) (ez : eraseAt xs i = ys) : EvM (pPopAt s q) env (g x) (env.set s (.own pin (oL g ys))) := fun k h => by subst ez; exact p_popAt hc hi c e k h
theorem m_lift (h : Ev p env (.va t)) : EvM (pLift p) env t env := fun k hk => h _ ⟨t, rfl, hk⟩
theorem m_asg {env' : En} (h : EvM pm env t env') (e : t = u) (hc : env'[k]? = some cl) (hj : Jk cl) (h' : pd.nx (env'.set k (.own none u))) : pAsg k pm pd env := h _ ⟨_, so_jk hc hj, by rw [e]; exact h'⟩
theorem m_drop {env' : En} (h : EvM pm env t env') (h' : pd.nx env') : pDrop pm pd env := h _ h'
theorem m_app {env' : En} {pin' : Option V} {zs : List β} {g2 : β → T} {y : β} {ks0 : List T} {pin0 : Option V} (h0 : env[k]? = some (.own pin0 (.node .lst ks0))) (h : EvM pm env t env') (e : t = g2 y) (hc : env'[k]? = some (.own pin' (oL g2 zs))) (hl : zs.length < 16777216) {ws : List β} (ez : zs ++ [y] = ws) (h' : pd.nx (env'.set k (.own pin' (oL g2 ws)))) : pAppM k pm pd env := by
  subst ez
  exact ⟨⟨pin0, ks0, h0⟩, h _ ⟨pin', zs.map g2, hc, by rw [List.length_map]; exact hl, by
  subst e
  unfold oL at h'
  rw [List.map_append] at h'
  exact h'⟩⟩
end
end PL

/-! The typed layer, part 4: loops, calls, the promise of a def by its plain function. -/
namespace PL
open PySem L2
section
variable {env e2 : En} {p q pa : PX} {pb pb' pt : PB} {ps : PAs} {pi : PI'} {r r' : R} {d e : D} {t u : T} {i j m n : Int} {s : Nat} {π : List Nat} {pin : Option V} {α β γ σ ρ : Type} {f : α → D} {g : α → T} {xs ys : List α} {x y : α} {sp : Shape} {ks : List T} {F : List Addr} {pd : PEnds} {cl : Cell} {tgt : Tgt} {vs : List Nat} {lock : Option Nat} {src : Bool} {body : PSt}
/-! ### where a block ends -/
structure Fin (Φ : σ → En → Prop) (RP : ρ → T → En → Prop) (pd : PEnds) (c : Ctl σ ρ) : Prop where
  nx : ∀ {s e}, c = .nx s → Φ s e → pd.nx e
  ct : ∀ {s e}, c = .nx s → Φ s e → pd.ct e
  bk : ∀ {s e}, c = .bk s → Φ s e → pd.bk e
  rt : ∀ {r t e}, c = .rt r → RP r t e → pd.rt t e
structure FinO (Φ : σ → En → Prop) (pd : PEnds) (s : σ) : Prop where
  nx : ∀ {s' e}, s' = s → Φ s' e → pd.nx e
  ct : ∀ {s' e}, s' = s → Φ s' e → pd.ct e
structure FinR (RT : ρ → T) (pd : PEnds) (r : ρ) : Prop where
  rt : ∀ {t e}, t = RT r → pd.rt t e
  nx : ∀ {e}, RT r = .s .non → pd.nx e
/-- .. seen from a block whose end goes on elsewhere -/
theorem Fin.up {Φ : σ → En → Prop} {RP : ρ → T → En → Prop} {c : Ctl σ ρ} {k : En → Prop} (h : Fin Φ RP pd c) (h' : ∀ {s e}, c = .nx s → Φ s e → k e) : Fin Φ RP { pd with nx := k } c := ⟨h', h.ct, h.bk, h.rt⟩
def Ctl.on {σ ρ β : Type} (c : Ctl σ ρ) (nx : σ → β) (rt : ρ → β) : β := match c with
  | .nx s => nx s
  | .bk s => nx s
  | .rt r => rt r
/-! ### for -/
theorem forC_drop {b : σ → α → Option (Ctl σ ρ)} {k : Nat} {s : σ} {c : Ctl σ ρ} (hk : k < xs.length) (h : forC b (xs.drop k) s = some c) : ∃ c0, b s xs[k] = some c0 ∧ (match c0 with
    | .nx s' => forC b (xs.drop (k + 1)) s' = some c
    | .bk s' => c = .nx s'
    | .rt r => c = .rt r) := by
  rw [List.drop_eq_getElem_cons hk] at h
  obtain ⟨c0, h1, h2⟩ := bindE h
  refine ⟨c0, h1, ?_⟩
  cases c0 with
  | nx s' => exact h2
  | bk s' => exact (someE h2).symm
  | rt r => exact (someE h2).symm
theorem loop_C {b : σ → α → Option (Ctl σ ρ)} {Φ : σ → En → Prop} {RP : ρ → T → En → Prop} {s0 : σ} {c : Ctl σ ρ} {aft : En → Prop} {rt : T → En → Prop} (h0 : Φ s0 env) (h : forC b xs s0 = some c)
    (hb : ∀ x s e c' (pd' : PEnds), Φ s e → b s x = some c' → Fin Φ RP pd' c' → ∃ e2, setT tgt (f x) e = some e2 ∧ body pd' e2)
    (hn : ∀ s' e', c = .nx s' → Φ s' e' → aft e') (hr : ∀ r t e', c = .rt r → RP r t e' → rt t e') : loopD (xs.map f) tgt body aft rt env := by
  refine ⟨fun k e => ∃ s, Φ s e ∧ forC b (xs.drop k) s = some c, ⟨s0, h0, h⟩, fun k d env' hk ⟨s, hs, hc⟩ => ?_, fun env' ⟨s, hs, hc⟩ => ?_⟩
  · obtain ⟨hk', rfl⟩ := map_some hk
    obtain ⟨c0, h1, h2⟩ := forC_drop hk' hc
    refine hb _ s env' c0 _ hs h1 ⟨fun {s' e'} q1 q2 => ?_, fun {s' e'} q1 q2 => ?_, fun {s' e'} q1 q2 => ?_, fun {r t e'} q1 q2 => ?_⟩
    · subst q1; exact ⟨s', q2, h2⟩
    · subst q1; exact ⟨s', q2, h2⟩
    · subst q1; exact hn s' e' h2 q2
    · subst q1; exact hr r t e' h2 q2
  · rw [List.length_map, List.drop_length] at hc
    exact hn s env' (someE hc).symm hs
theorem w_for {b : σ → α → Option (Ctl σ ρ)} {c : Ctl σ ρ} (Φ : σ → En → Prop) (RP : ρ → T → En → Prop) (s0 : σ) (hi : Ei pi env ⟨xs.map f, none, src⟩) (h : forC b xs s0 = some c) (h0 : Φ s0 env)
    (hb : ∀ x s e c' (pd' : PEnds), Φ s e → b s x = some c' → Fin Φ RP pd' c' → ∃ e2, setT tgt (f x) e = some e2 ∧ body pd' e2)
    (hr : ∀ r t e', c = .rt r → RP r t e' → pd.rt t e') (hn : ∀ s' e', c = .nx s' → Φ s' e' → pd.nx e') : pFor pi tgt body pd env := hi _ (loop_C h0 h hb hn hr)
/-- over a list that a slot owns: the slot is locked -/
theorem w_forL {b : σ → α → Option (Ctl σ ρ)} {c : Ctl σ ρ} (Φ : List Addr → σ → En → Prop) (RP : List Addr → ρ → T → En → Prop) (s0 : σ) (hi : Ei pi env ⟨xs.map f, some s, src⟩) (he : env[s]? = some (.own none t)) (h : forC b xs s0 = some c) (h0 : ∀ F, Φ F s0 (env.set s (.lk F t)))
    (hb : ∀ F x s e c' (pd' : PEnds), Φ F s e → b s x = some c' → Fin (Φ F) (RP F) pd' c' → ∃ e2, setT tgt (f x) e = some e2 ∧ body pd' e2)
    (hr : ∀ F r t e', c = .rt r → RP F r t e' → unlk s F (pd.rt t) e') (hn : ∀ F s' e', c = .nx s' → Φ F s' e' → unlk s F pd.nx e') : pFor pi tgt body pd env := hi _ (by
  show (match env[s]? with
    | some (.lk _ _) => loopD (xs.map f) tgt body pd.nx pd.rt env
    | some (.own none t) => ∀ F, loopD (xs.map f) tgt body (unlk s F pd.nx) (fun t => unlk s F (pd.rt t)) (env.set s (.lk F t))
    | _ => False)
  rw [he]
  exact fun F => loop_C (h0 F) h (hb F) (hn F) (hr F))
/-- .. that is locked already -/
theorem w_forK {b : σ → α → Option (Ctl σ ρ)} {c : Ctl σ ρ} (Φ : σ → En → Prop) (RP : ρ → T → En → Prop) (s0 : σ) (hi : Ei pi env ⟨xs.map f, some s, src⟩) (he : env[s]? = some (.lk F t)) (h : forC b xs s0 = some c) (h0 : Φ s0 env)
    (hb : ∀ x s e c' (pd' : PEnds), Φ s e → b s x = some c' → Fin Φ RP pd' c' → ∃ e2, setT tgt (f x) e = some e2 ∧ body pd' e2)
    (hr : ∀ r t e', c = .rt r → RP r t e' → pd.rt t e') (hn : ∀ s' e', c = .nx s' → Φ s' e' → pd.nx e') : pFor pi tgt body pd env := hi _ (by
  show (match env[s]? with
    | some (.lk _ _) => loopD (xs.map f) tgt body pd.nx pd.rt env
    | some (.own none t) => ∀ F, loopD (xs.map f) tgt body (unlk s F pd.nx) (fun t => unlk s F (pd.rt t)) (env.set s (.lk F t))
    | _ => False)
  rw [he]
  exact loop_C h0 h hb hn hr)
/-! .. whose body neither returns nor breaks -/
theorem foldO_C {b : σ → α → Option σ} : ∀ {xs : List α} {s s' : σ}, foldO b xs s = some s' → forC (ρ := Empty) (fun s x => (b s x).map Ctl.nx) xs s = some (.nx s')
  | [], s, s', h => by cases h; rfl
  | x :: xs, s, s', h => by
    obtain ⟨s1, h1, h2⟩ := bindE h
    show ((b s x).map Ctl.nx).bind _ = _
    rw [h1]
    exact foldO_C h2
theorem fin_O {Φ : σ → En → Prop} {RP : Empty → T → En → Prop} {o : Option σ} {c : Ctl σ Empty} (h : o.map Ctl.nx = some c) (hf : Fin Φ RP pd c) : ∃ s, o = some s ∧ FinO Φ pd s := by
  cases o with
  | none => cases h
  | some s =>
    cases h
    exact ⟨s, rfl, (fun e h => by subst e; exact hf.nx rfl h), (fun e h => by subst e; exact hf.ct rfl h)⟩
theorem w_forO {b : σ → α → Option σ} {s1 : σ} (Φ : σ → En → Prop) (s0 : σ) (hi : Ei pi env ⟨xs.map f, none, src⟩) (h : foldO b xs s0 = some s1) (h0 : Φ s0 env)
    (hb : ∀ x s e s' (pd' : PEnds), Φ s e → b s x = some s' → FinO Φ pd' s' → ∃ e2, setT tgt (f x) e = some e2 ∧ body pd' e2) (hn : ∀ e', Φ s1 e' → pd.nx e') : pFor pi tgt body pd env :=
  w_for Φ (fun _ _ _ => False) s0 hi (foldO_C h) h0 (fun x s e c' pd' h1 h2 h3 => by
    obtain ⟨s2, h4, h5⟩ := fin_O h2 h3
    exact hb x s e s2 pd' h1 h4 h5) (fun r _ _ _ _ => nomatch r) (fun s' e' h1 h2 => by cases h1; exact hn e' h2)
theorem w_forLO {b : σ → α → Option σ} {s1 : σ} (Φ : List Addr → σ → En → Prop) (s0 : σ) (hi : Ei pi env ⟨xs.map f, some s, src⟩) (he : env[s]? = some (.own none t)) (h : foldO b xs s0 = some s1) (h0 : ∀ F, Φ F s0 (env.set s (.lk F t)))
    (hb : ∀ F x s e s' (pd' : PEnds), Φ F s e → b s x = some s' → FinO (Φ F) pd' s' → ∃ e2, setT tgt (f x) e = some e2 ∧ body pd' e2) (hn : ∀ F e', Φ F s1 e' → unlk s F pd.nx e') : pFor pi tgt body pd env :=
  w_forL Φ (fun _ _ _ _ => False) s0 hi he (foldO_C h) h0 (fun F x s e c' pd' h1 h2 h3 => by
    obtain ⟨s2, h4, h5⟩ := fin_O h2 h3
    exact hb F x s e s2 pd' h1 h4 h5) (fun F r _ _ _ _ => nomatch r) (fun F s' e' h1 h2 => by cases h1; exact hn F e' h2)
theorem w_forKO {b : σ → α → Option σ} {s1 : σ} (Φ : σ → En → Prop) (s0 : σ) (hi : Ei pi env ⟨xs.map f, some s, src⟩) (he : env[s]? = some (.lk F t)) (h : foldO b xs s0 = some s1) (h0 : Φ s0 env)
    (hb : ∀ x s e s' (pd' : PEnds), Φ s e → b s x = some s' → FinO Φ pd' s' → ∃ e2, setT tgt (f x) e = some e2 ∧ body pd' e2) (hn : ∀ e', Φ s1 e' → pd.nx e') : pFor pi tgt body pd env :=
  w_forK Φ (fun _ _ _ => False) s0 hi he (foldO_C h) h0 (fun x s e c' pd' h1 h2 h3 => by
    obtain ⟨s2, h4, h5⟩ := fin_O h2 h3
    exact hb x s e s2 pd' h1 h4 h5) (fun r _ _ _ _ => nomatch r) (fun s' e' h1 h2 => by cases h1; exact hn e' h2)
theorem unlk_of {k : En → Prop} (h : env[s]? = some (.lk F t)) (h' : k (env.set s (.own none t))) : unlk s F k env := ⟨t, h, h'⟩
/-! ### while -/
theorem least_of (Q : Nat → Prop) : ∀ n, Q n → ∃ m, Q m ∧ ∀ k, Q k → m ≤ k := fun n => by
  induction n using Nat.strongRecOn with
  | ind n ih =>
    intro h
    by_cases c : ∃ k, k < n ∧ Q k
    · obtain ⟨k, h1, h2⟩ := c
      exact ih k h1 h2
    · exact ⟨n, h, fun k hk => Nat.le_of_not_lt fun z => c ⟨k, z, hk⟩⟩
theorem w_while {pc : PB} {cn : σ → Option Bool} {b : σ → Option (Ctl σ ρ)} {c : Ctl σ ρ} {N : Nat} (Φ : σ → En → Prop) (RP : ρ → T → En → Prop) (s0 : σ) (h : whileC cn b N s0 = some c) (h0 : Φ s0 env)
    (hc : ∀ s e t, Φ s e → cn s = some t → Et pc e t) (hb : ∀ s e c' (pd' : PEnds), Φ s e → b s = some c' → Fin Φ RP pd' c' → body pd' e)
    (hr : ∀ r t e', c = .rt r → RP r t e' → pd.rt t e') (hn : ∀ s' e', c = .nx s' → Φ s' e' → pd.nx e') : pWhile pc body pd env := by
  let Q : En → Nat → Prop := fun e n => ∃ s, Φ s e ∧ whileC cn b n s = some c
  have key : ∀ e, ∃ m, (∃ n, Q e n) → Q e m ∧ ∀ k, Q e k → m ≤ k := fun e => by
    by_cases z : ∃ n, Q e n
    · obtain ⟨n, hn⟩ := z
      obtain ⟨m, h1, h2⟩ := least_of (Q e) n hn
      exact ⟨m, fun _ => ⟨h1, h2⟩⟩
    · exact ⟨0, fun z' => absurd z' z⟩
  refine ⟨fun e => ∃ n, Q e n, fun e => Classical.choose (key e), ⟨N, s0, h0, h⟩, fun e he => ?_⟩
  obtain ⟨hm, hmin⟩ := Classical.choose_spec (key e) he
  generalize hμ : Classical.choose (key e) = μ at hm hmin
  obtain ⟨s, hs, hw⟩ := hm
  cases μ with
  | zero => cases hw
  | succ k =>
    obtain ⟨t, h1, h2⟩ := bindE hw
    refine hc s e t hs h1 _ ?_
    cases t with
    | false =>
      exact hn s e (someE (iteF rfl h2)).symm hs
    | true =>
      have h2 := iteT rfl h2
      obtain ⟨z, h3, h4⟩ := bindE h2
      have lo : ∀ s' e', Φ s' e' → whileC cn b k s' = some c → (∃ n, Q e' n) ∧ Classical.choose (key e') < k + 1 := fun s' e' q1 q2 => by
        have z : ∃ n, Q e' n := ⟨k, s', q1, q2⟩
        exact ⟨z, Nat.lt_succ_of_le ((Classical.choose_spec (key e') z).2 k ⟨s', q1, q2⟩)⟩
      refine hb s e z _ hs h3 ⟨fun {s' e'} q1 q2 => ?_, fun {s' e'} q1 q2 => ?_, fun {s' e'} q1 q2 => ?_, fun {r t e'} q1 q2 => ?_⟩
      · subst q1; show (∃ n, Q e' n) ∧ Classical.choose (key e') < Classical.choose (key e); rw [hμ]; exact lo s' e' q2 h4
      · subst q1; show (∃ n, Q e' n) ∧ Classical.choose (key e') < Classical.choose (key e); rw [hμ]; exact lo s' e' q2 h4
      · subst q1; exact hn s' e' (someE h4).symm q2
      · subst q1; exact hr r t e' (someE h4).symm q2
/-! ### calls -/
/-- the promise of a def: what its plain function says, where that says something -/
def mkSp (enc : α → List D) (fn : α → Option ρ) (RT : ρ → T) : SpcP := ⟨α, fun ds a => ds = enc a ∧ (fn a).isSome = true, fun a t => ∃ r, fn a = some r ∧ t = RT r⟩
theorem ev_call {enc : α → List D} {fn : α → Option ρ} {RT : ρ → T} {rs : List R} {r : ρ} (a : α) (h : Ea ps env rs) (l : RdL env rs (enc a)) (hf : fn a = some r) (im : anyBo rs = true → immT (RT r) = true) : Ev (pCall (spS (mkSp enc fn RT).s) ps) env (.va (RT r)) := fun k hk => h _ ⟨enc a, l, a, ⟨enc a, rfl, rfl, by rw [hf]; rfl⟩, fun t outs ⟨r', e, et⟩ => by
  rw [hf] at e
  cases e
  subst et
  exact ⟨im, hk⟩⟩
def ImD (f : α → D) : Prop := ∀ x, immD (f x) = true
def ImT (g : α → T) : Prop := ∀ x, immT (g x) = true
theorem imd_int : ImD D.int := fun _ => rfl
theorem imd_bl : ImD D.bl := fun _ => rfl
theorem imd_str : ImD D.str := fun _ => rfl
theorem imd_unit : ImD eU1 := fun _ => rfl
theorem imd_opt (h : ImD f) : ImD (eO f) := fun x => by
  cases x with
  | none => rfl
  | some a => exact h a
theorem imd_all (h : ImD f) : ∀ xs : List α, immDs (xs.map f) = true
  | [] => rfl
  | x :: xs => by
    show (immD (f x) && immDs (xs.map f)) = true
    rw [h x, imd_all h xs]
    rfl
theorem imd_U (h : ImD f) : ImD (eU f) := fun xs => imd_all h xs
theorem imt_sh (h : ImD f) : ImT (sh f) := fun x => h x
theorem imt_all (h : ImT g) : ∀ xs : List α, immTs (xs.map g) = true
  | [] => rfl
  | x :: xs => by
    show (immT (g x) && immTs (xs.map g)) = true
    rw [h x, imt_all h xs]
    rfl
theorem imt_oL (h : ImT g) : ImT (oL g) := fun xs => imt_all h xs
/-- the end of a def -/
theorem fin_R {RT : ρ → T} {fn : α → Option ρ} {enc : α → List D} {a : α} {r : ρ} (h : fn a = some r) : FinR RT { nx := fun _ => (mkSp enc fn RT).post a (.s .non), rt := fun t _ => (mkSp enc fn RT).post a t } r :=
  ⟨fun e => ⟨r, h, e⟩, fun e => ⟨r, h, e.symm⟩⟩
end
end PL

set_option synthInstance.maxSize 1000
set_option synthInstance.maxHeartbeats 200000
/-! The typed layer, part 5: structures of a fixed length; a value seen at a wider type. -/
namespace PL
open PySem L2
def Co {α β : Type} (f : α → D) (f' : β → D) (c : α → β) : Prop := ∀ x, f x = f' (c x)
section
variable {α β γ : Type} {f : α → D} {f' : β → D} {c : α → β} {g : α → T} {g' : β → T}
theorem co_id : Co f f id := fun _ => rfl
theorem co_none : Co eU1 (eO f') (fun _ => none) := fun _ => rfl
theorem co_some (h : Co f f' c) : Co f (eO f') (fun x => some (c x)) := fun x => h x
theorem co_opt (h : Co f f' c) : Co (eO f) (eO f') (fun o => o.map c) := fun o => by
  cases o with
  | none => rfl
  | some a => exact h a
theorem co_map (h : Co f f' c) (xs : List α) : xs.map f = (xs.map c).map f' := by
  rw [List.map_map]
  exact List.map_congr_left fun x _ => h x
theorem co_L (h : Co f f' c) : Co (eL f) (eL f') (fun xs => xs.map c) := fun xs => congrArg _ (co_map h xs)
theorem co_U (h : Co f f' c) : Co (eU f) (eU f') (fun xs => xs.map c) := fun xs => congrArg _ (co_map h xs)
theorem co_Q (h : Co f f' c) : Co (eQ f) (eQ f') (fun p => (p.1, p.2.map c)) := fun p => congrArg _ (co_map h p.2)
theorem co_LQ (h : Co f f' c) : Co (eL f) (eQ f') (fun xs => (false, xs.map c)) := fun xs => congrArg (D.node .lst) (co_map h xs)
theorem co_UQ (h : Co f f' c) : Co (eU f) (eQ f') (fun xs => (true, xs.map c)) := fun xs => congrArg (D.node .tup) (co_map h xs)
theorem co_LQ0 : Co (eL f) (eQ f) (fun xs => (false, xs)) := fun xs => rfl
theorem co_UQ0 : Co (eU f) (eQ f) (fun xs => (true, xs)) := fun xs => rfl
theorem co_oL (h : ∀ x, g x = g' (c x)) (xs : List α) : oL g xs = oL g' (xs.map c) := by
  unfold oL
  rw [List.map_map]
  exact congrArg _ (List.map_congr_left fun x _ => h x)
theorem co_sh (h : Co f f' c) (x : α) : sh f x = sh f' (c x) := congrArg T.s (h x)
end
def eT1 {α : Type} (f : α → D) (p : α) : D := .node .tup [f p]
def eS1 {α : Type} (f : α → D) (p : α) : D := .node .lst [f p]
def eW1 {α : Type} (f : α → D) (p : Bool × α) : D := .node (sqS p.1) [f p.2]
theorem dq_T1 {α : Type} {f : α → D} [DecidableEq α] (h0 : DeqOk f) : DeqOk (eT1 f) := fun x y => deq_tup.trans (by show (deq (f x) (f y) && deqs [] []) = _; rw [h0 x y]; simp [deqs])
theorem sp_T1 {α : Type} {f : α → D} {n : Nat} (h0 : ShpOk n f) : ShpOk (n + 1) (eT1 f) := fun p => by show shpL n _ = true; simp only [shpL_cons, shpL_nil, h0 _]; rfl
theorem nn_T1 {α : Type} {f : α → D} : NN (eT1 f) := fun _ z => nomatch z
theorem dq_S1 {α : Type} {f : α → D} [DecidableEq α] (h0 : DeqOk f) : DeqOk (eS1 f) := fun x y => deq_lst.trans (by show (deq (f x) (f y) && deqs [] []) = _; rw [h0 x y]; simp [deqs])
theorem sp_S1 {α : Type} {f : α → D} {n : Nat} (h0 : ShpOk n f) : ShpOk (n + 1) (eS1 f) := fun p => by show shpL n _ = true; simp only [shpL_cons, shpL_nil, h0 _]; rfl
theorem nn_S1 {α : Type} {f : α → D} : NN (eS1 f) := fun _ z => nomatch z
theorem sp_W1 {α : Type} {f : α → D} {n : Nat} (h0 : ShpOk n f) : ShpOk (n + 1) (eW1 f) := fun p => by show shp (n + 1) (.node (sqS p.1) _) = true; rw [shp_q]; simp only [shpL_cons, shpL_nil, h0 _]; rfl
theorem nn_W1 {α : Type} {f : α → D} : NN (eW1 f) := fun _ z => nomatch z
theorem imd_T1 {α : Type} {f : α → D} (h0 : ImD f) : ImD (eT1 f) := fun p => by show immDs _ = true; simp only [immDs, h0 _]; rfl
theorem co_T1 {α : Type} {f : α → D} {α' : Type} {f' : α' → D} {c0 : α → α'} (h0 : Co f f' c0) : Co (eT1 f) (eT1 f') (fun p => c0 p) := fun p => by unfold eT1; simp only [show f p = f' (c0 p) from h0 _]
theorem co_S1 {α : Type} {f : α → D} {α' : Type} {f' : α' → D} {c0 : α → α'} (h0 : Co f f' c0) : Co (eS1 f) (eS1 f') (fun p => c0 p) := fun p => by unfold eS1; simp only [show f p = f' (c0 p) from h0 _]
theorem co_TW1 {α : Type} {f : α → D} {α' : Type} {f' : α' → D} {c0 : α → α'} (h0 : Co f f' c0) : Co (eT1 f) (eW1 f') (fun p => (true, c0 p)) := fun p => by unfold eT1 eW1; simp only [show f p = f' (c0 p) from h0 _]; rfl
theorem co_SW1 {α : Type} {f : α → D} {α' : Type} {f' : α' → D} {c0 : α → α'} (h0 : Co f f' c0) : Co (eS1 f) (eW1 f') (fun p => (false, c0 p)) := fun p => by unfold eS1 eW1; simp only [show f p = f' (c0 p) from h0 _]; rfl
theorem co_TU1 {α : Type} {f : α → D} {υ : Type} {u : υ → D} {c0 : α → υ} (h0 : Co f u c0) : Co (eT1 f) (eU u) (fun p => [c0 p]) := fun p => by unfold eT1 eU; simp only [List.map_cons, List.map_nil, show f p = u (c0 p) from h0 _]
theorem co_SL1 {α : Type} {f : α → D} {υ : Type} {u : υ → D} {c0 : α → υ} (h0 : Co f u c0) : Co (eS1 f) (eL u) (fun p => [c0 p]) := fun p => by unfold eS1 eL; simp only [List.map_cons, List.map_nil, show f p = u (c0 p) from h0 _]
theorem co_TQ1 {α : Type} {f : α → D} {υ : Type} {u : υ → D} {c0 : α → υ} (h0 : Co f u c0) : Co (eT1 f) (eQ u) (fun p => (true, [c0 p])) := fun p => by unfold eT1 eQ; simp only [List.map_cons, List.map_nil, show f p = u (c0 p) from h0 _]; rfl
theorem co_SQ1 {α : Type} {f : α → D} {υ : Type} {u : υ → D} {c0 : α → υ} (h0 : Co f u c0) : Co (eS1 f) (eQ u) (fun p => (false, [c0 p])) := fun p => by unfold eS1 eQ; simp only [List.map_cons, List.map_nil, show f p = u (c0 p) from h0 _]; rfl
def eT2 {α β : Type} (f : α → D) (g : β → D) (p : α × β) : D := .node .tup [f p.1, g p.2]
def eS2 {α β : Type} (f : α → D) (g : β → D) (p : α × β) : D := .node .lst [f p.1, g p.2]
def eW2 {α β : Type} (f : α → D) (g : β → D) (p : Bool × α × β) : D := .node (sqS p.1) [f p.2.1, g p.2.2]
theorem dq_T2 {α β : Type} {f : α → D} {g : β → D} [DecidableEq α] [DecidableEq β] (h0 : DeqOk f) (h1 : DeqOk g) : DeqOk (eT2 f g) := fun ⟨x0, x1⟩ ⟨y0, y1⟩ => deq_tup.trans (by simp only [deqs, show deq (f x0) (f y0) = decide (x0 = y0) from h0 x0 y0, show deq (g x1) (g y1) = decide (x1 = y1) from h1 x1 y1]; simp [Bool.and_true])
theorem sp_T2 {α β : Type} {f : α → D} {g : β → D} {n : Nat} (h0 : ShpOk n f) (h1 : ShpOk n g) : ShpOk (n + 1) (eT2 f g) := fun p => by show shpL n _ = true; simp only [shpL_cons, shpL_nil, h0 _, h1 _]; rfl
theorem nn_T2 {α β : Type} {f : α → D} {g : β → D} : NN (eT2 f g) := fun _ z => nomatch z
theorem dq_S2 {α β : Type} {f : α → D} {g : β → D} [DecidableEq α] [DecidableEq β] (h0 : DeqOk f) (h1 : DeqOk g) : DeqOk (eS2 f g) := fun ⟨x0, x1⟩ ⟨y0, y1⟩ => deq_lst.trans (by simp only [deqs, show deq (f x0) (f y0) = decide (x0 = y0) from h0 x0 y0, show deq (g x1) (g y1) = decide (x1 = y1) from h1 x1 y1]; simp [Bool.and_true])
theorem sp_S2 {α β : Type} {f : α → D} {g : β → D} {n : Nat} (h0 : ShpOk n f) (h1 : ShpOk n g) : ShpOk (n + 1) (eS2 f g) := fun p => by show shpL n _ = true; simp only [shpL_cons, shpL_nil, h0 _, h1 _]; rfl
theorem nn_S2 {α β : Type} {f : α → D} {g : β → D} : NN (eS2 f g) := fun _ z => nomatch z
theorem sp_W2 {α β : Type} {f : α → D} {g : β → D} {n : Nat} (h0 : ShpOk n f) (h1 : ShpOk n g) : ShpOk (n + 1) (eW2 f g) := fun p => by show shp (n + 1) (.node (sqS p.1) _) = true; rw [shp_q]; simp only [shpL_cons, shpL_nil, h0 _, h1 _]; rfl
theorem nn_W2 {α β : Type} {f : α → D} {g : β → D} : NN (eW2 f g) := fun _ z => nomatch z
theorem dq_W2 {α β : Type} {f : α → D} {g : β → D} [DecidableEq α] [DecidableEq β] (h0 : DeqOk f) (h1 : DeqOk g) : DeqOk (eW2 f g) := fun ⟨b, x0, x1⟩ ⟨c, y0, y1⟩ => by
  cases b <;> cases c
  · exact (dq_S2 h0 h1 (x0, x1) (y0, y1)).trans (by simp)
  · exact deq_lt.trans (by simp)
  · exact deq_tl.trans (by simp)
  · exact (dq_T2 h0 h1 (x0, x1) (y0, y1)).trans (by simp)
theorem imd_T2 {α β : Type} {f : α → D} {g : β → D} (h0 : ImD f) (h1 : ImD g) : ImD (eT2 f g) := fun p => by show immDs _ = true; simp only [immDs, h0 _, h1 _]; rfl
theorem co_T2 {α β : Type} {f : α → D} {g : β → D} {α' β' : Type} {f' : α' → D} {g' : β' → D} {c0 : α → α'} {c1 : β → β'} (h0 : Co f f' c0) (h1 : Co g g' c1) : Co (eT2 f g) (eT2 f' g') (fun p => (c0 p.1, c1 p.2)) := fun p => by unfold eT2; simp only [show f p.1 = f' (c0 p.1) from h0 _, show g p.2 = g' (c1 p.2) from h1 _]
theorem co_S2 {α β : Type} {f : α → D} {g : β → D} {α' β' : Type} {f' : α' → D} {g' : β' → D} {c0 : α → α'} {c1 : β → β'} (h0 : Co f f' c0) (h1 : Co g g' c1) : Co (eS2 f g) (eS2 f' g') (fun p => (c0 p.1, c1 p.2)) := fun p => by unfold eS2; simp only [show f p.1 = f' (c0 p.1) from h0 _, show g p.2 = g' (c1 p.2) from h1 _]
theorem co_TW2 {α β : Type} {f : α → D} {g : β → D} {α' β' : Type} {f' : α' → D} {g' : β' → D} {c0 : α → α'} {c1 : β → β'} (h0 : Co f f' c0) (h1 : Co g g' c1) : Co (eT2 f g) (eW2 f' g') (fun p => (true, c0 p.1, c1 p.2)) := fun p => by unfold eT2 eW2; simp only [show f p.1 = f' (c0 p.1) from h0 _, show g p.2 = g' (c1 p.2) from h1 _]; rfl
theorem co_SW2 {α β : Type} {f : α → D} {g : β → D} {α' β' : Type} {f' : α' → D} {g' : β' → D} {c0 : α → α'} {c1 : β → β'} (h0 : Co f f' c0) (h1 : Co g g' c1) : Co (eS2 f g) (eW2 f' g') (fun p => (false, c0 p.1, c1 p.2)) := fun p => by unfold eS2 eW2; simp only [show f p.1 = f' (c0 p.1) from h0 _, show g p.2 = g' (c1 p.2) from h1 _]; rfl
theorem co_TU2 {α β : Type} {f : α → D} {g : β → D} {υ : Type} {u : υ → D} {c0 : α → υ} {c1 : β → υ} (h0 : Co f u c0) (h1 : Co g u c1) : Co (eT2 f g) (eU u) (fun p => [c0 p.1, c1 p.2]) := fun p => by unfold eT2 eU; simp only [List.map_cons, List.map_nil, show f p.1 = u (c0 p.1) from h0 _, show g p.2 = u (c1 p.2) from h1 _]
theorem co_SL2 {α β : Type} {f : α → D} {g : β → D} {υ : Type} {u : υ → D} {c0 : α → υ} {c1 : β → υ} (h0 : Co f u c0) (h1 : Co g u c1) : Co (eS2 f g) (eL u) (fun p => [c0 p.1, c1 p.2]) := fun p => by unfold eS2 eL; simp only [List.map_cons, List.map_nil, show f p.1 = u (c0 p.1) from h0 _, show g p.2 = u (c1 p.2) from h1 _]
theorem co_TQ2 {α β : Type} {f : α → D} {g : β → D} {υ : Type} {u : υ → D} {c0 : α → υ} {c1 : β → υ} (h0 : Co f u c0) (h1 : Co g u c1) : Co (eT2 f g) (eQ u) (fun p => (true, [c0 p.1, c1 p.2])) := fun p => by unfold eT2 eQ; simp only [List.map_cons, List.map_nil, show f p.1 = u (c0 p.1) from h0 _, show g p.2 = u (c1 p.2) from h1 _]; rfl
theorem co_SQ2 {α β : Type} {f : α → D} {g : β → D} {υ : Type} {u : υ → D} {c0 : α → υ} {c1 : β → υ} (h0 : Co f u c0) (h1 : Co g u c1) : Co (eS2 f g) (eQ u) (fun p => (false, [c0 p.1, c1 p.2])) := fun p => by unfold eS2 eQ; simp only [List.map_cons, List.map_nil, show f p.1 = u (c0 p.1) from h0 _, show g p.2 = u (c1 p.2) from h1 _]; rfl
def eT3 {α β γ : Type} (f : α → D) (g : β → D) (h : γ → D) (p : α × β × γ) : D := .node .tup [f p.1, g p.2.1, h p.2.2]
def eS3 {α β γ : Type} (f : α → D) (g : β → D) (h : γ → D) (p : α × β × γ) : D := .node .lst [f p.1, g p.2.1, h p.2.2]
def eW3 {α β γ : Type} (f : α → D) (g : β → D) (h : γ → D) (p : Bool × α × β × γ) : D := .node (sqS p.1) [f p.2.1, g p.2.2.1, h p.2.2.2]
theorem dq_T3 {α β γ : Type} {f : α → D} {g : β → D} {h : γ → D} [DecidableEq α] [DecidableEq β] [DecidableEq γ] (h0 : DeqOk f) (h1 : DeqOk g) (h2 : DeqOk h) : DeqOk (eT3 f g h) := fun ⟨x0, x1, x2⟩ ⟨y0, y1, y2⟩ => deq_tup.trans (by simp only [deqs, show deq (f x0) (f y0) = decide (x0 = y0) from h0 x0 y0, show deq (g x1) (g y1) = decide (x1 = y1) from h1 x1 y1, show deq (h x2) (h y2) = decide (x2 = y2) from h2 x2 y2]; simp [Bool.and_true])
theorem sp_T3 {α β γ : Type} {f : α → D} {g : β → D} {h : γ → D} {n : Nat} (h0 : ShpOk n f) (h1 : ShpOk n g) (h2 : ShpOk n h) : ShpOk (n + 1) (eT3 f g h) := fun p => by show shpL n _ = true; simp only [shpL_cons, shpL_nil, h0 _, h1 _, h2 _]; rfl
theorem nn_T3 {α β γ : Type} {f : α → D} {g : β → D} {h : γ → D} : NN (eT3 f g h) := fun _ z => nomatch z
theorem dq_S3 {α β γ : Type} {f : α → D} {g : β → D} {h : γ → D} [DecidableEq α] [DecidableEq β] [DecidableEq γ] (h0 : DeqOk f) (h1 : DeqOk g) (h2 : DeqOk h) : DeqOk (eS3 f g h) := fun ⟨x0, x1, x2⟩ ⟨y0, y1, y2⟩ => deq_lst.trans (by simp only [deqs, show deq (f x0) (f y0) = decide (x0 = y0) from h0 x0 y0, show deq (g x1) (g y1) = decide (x1 = y1) from h1 x1 y1, show deq (h x2) (h y2) = decide (x2 = y2) from h2 x2 y2]; simp [Bool.and_true])
theorem sp_S3 {α β γ : Type} {f : α → D} {g : β → D} {h : γ → D} {n : Nat} (h0 : ShpOk n f) (h1 : ShpOk n g) (h2 : ShpOk n h) : ShpOk (n + 1) (eS3 f g h) := fun p => by show shpL n _ = true; simp only [shpL_cons, shpL_nil, h0 _, h1 _, h2 _]; rfl
theorem nn_S3 {α β γ : Type} {f : α → D} {g : β → D} {h : γ → D} : NN (eS3 f g h) := fun _ z => nomatch z
theorem sp_W3 {α β γ : Type} {f : α → D} {g : β → D} {h : γ → D} {n : Nat} (h0 : ShpOk n f) (h1 : ShpOk n g) (h2 : ShpOk n h) : ShpOk (n + 1) (eW3 f g h) := fun p => by show shp (n + 1) (.node (sqS p.1) _) = true; rw [shp_q]; simp only [shpL_cons, shpL_nil, h0 _, h1 _, h2 _]; rfl
theorem nn_W3 {α β γ : Type} {f : α → D} {g : β → D} {h : γ → D} : NN (eW3 f g h) := fun _ z => nomatch z
theorem dq_W3 {α β γ : Type} {f : α → D} {g : β → D} {h : γ → D} [DecidableEq α] [DecidableEq β] [DecidableEq γ] (h0 : DeqOk f) (h1 : DeqOk g) (h2 : DeqOk h) : DeqOk (eW3 f g h) := fun ⟨b, x0, x1, x2⟩ ⟨c, y0, y1, y2⟩ => by
  cases b <;> cases c
  · exact (dq_S3 h0 h1 h2 (x0, x1, x2) (y0, y1, y2)).trans (by simp)
  · exact deq_lt.trans (by simp)
  · exact deq_tl.trans (by simp)
  · exact (dq_T3 h0 h1 h2 (x0, x1, x2) (y0, y1, y2)).trans (by simp)
theorem imd_T3 {α β γ : Type} {f : α → D} {g : β → D} {h : γ → D} (h0 : ImD f) (h1 : ImD g) (h2 : ImD h) : ImD (eT3 f g h) := fun p => by show immDs _ = true; simp only [immDs, h0 _, h1 _, h2 _]; rfl
theorem co_T3 {α β γ : Type} {f : α → D} {g : β → D} {h : γ → D} {α' β' γ' : Type} {f' : α' → D} {g' : β' → D} {h' : γ' → D} {c0 : α → α'} {c1 : β → β'} {c2 : γ → γ'} (h0 : Co f f' c0) (h1 : Co g g' c1) (h2 : Co h h' c2) : Co (eT3 f g h) (eT3 f' g' h') (fun p => (c0 p.1, c1 p.2.1, c2 p.2.2)) := fun p => by unfold eT3; simp only [show f p.1 = f' (c0 p.1) from h0 _, show g p.2.1 = g' (c1 p.2.1) from h1 _, show h p.2.2 = h' (c2 p.2.2) from h2 _]
theorem co_S3 {α β γ : Type} {f : α → D} {g : β → D} {h : γ → D} {α' β' γ' : Type} {f' : α' → D} {g' : β' → D} {h' : γ' → D} {c0 : α → α'} {c1 : β → β'} {c2 : γ → γ'} (h0 : Co f f' c0) (h1 : Co g g' c1) (h2 : Co h h' c2) : Co (eS3 f g h) (eS3 f' g' h') (fun p => (c0 p.1, c1 p.2.1, c2 p.2.2)) := fun p => by unfold eS3; simp only [show f p.1 = f' (c0 p.1) from h0 _, show g p.2.1 = g' (c1 p.2.1) from h1 _, show h p.2.2 = h' (c2 p.2.2) from h2 _]
theorem co_TW3 {α β γ : Type} {f : α → D} {g : β → D} {h : γ → D} {α' β' γ' : Type} {f' : α' → D} {g' : β' → D} {h' : γ' → D} {c0 : α → α'} {c1 : β → β'} {c2 : γ → γ'} (h0 : Co f f' c0) (h1 : Co g g' c1) (h2 : Co h h' c2) : Co (eT3 f g h) (eW3 f' g' h') (fun p => (true, c0 p.1, c1 p.2.1, c2 p.2.2)) := fun p => by unfold eT3 eW3; simp only [show f p.1 = f' (c0 p.1) from h0 _, show g p.2.1 = g' (c1 p.2.1) from h1 _, show h p.2.2 = h' (c2 p.2.2) from h2 _]; rfl
theorem co_SW3 {α β γ : Type} {f : α → D} {g : β → D} {h : γ → D} {α' β' γ' : Type} {f' : α' → D} {g' : β' → D} {h' : γ' → D} {c0 : α → α'} {c1 : β → β'} {c2 : γ → γ'} (h0 : Co f f' c0) (h1 : Co g g' c1) (h2 : Co h h' c2) : Co (eS3 f g h) (eW3 f' g' h') (fun p => (false, c0 p.1, c1 p.2.1, c2 p.2.2)) := fun p => by unfold eS3 eW3; simp only [show f p.1 = f' (c0 p.1) from h0 _, show g p.2.1 = g' (c1 p.2.1) from h1 _, show h p.2.2 = h' (c2 p.2.2) from h2 _]; rfl
theorem co_TU3 {α β γ : Type} {f : α → D} {g : β → D} {h : γ → D} {υ : Type} {u : υ → D} {c0 : α → υ} {c1 : β → υ} {c2 : γ → υ} (h0 : Co f u c0) (h1 : Co g u c1) (h2 : Co h u c2) : Co (eT3 f g h) (eU u) (fun p => [c0 p.1, c1 p.2.1, c2 p.2.2]) := fun p => by unfold eT3 eU; simp only [List.map_cons, List.map_nil, show f p.1 = u (c0 p.1) from h0 _, show g p.2.1 = u (c1 p.2.1) from h1 _, show h p.2.2 = u (c2 p.2.2) from h2 _]
theorem co_SL3 {α β γ : Type} {f : α → D} {g : β → D} {h : γ → D} {υ : Type} {u : υ → D} {c0 : α → υ} {c1 : β → υ} {c2 : γ → υ} (h0 : Co f u c0) (h1 : Co g u c1) (h2 : Co h u c2) : Co (eS3 f g h) (eL u) (fun p => [c0 p.1, c1 p.2.1, c2 p.2.2]) := fun p => by unfold eS3 eL; simp only [List.map_cons, List.map_nil, show f p.1 = u (c0 p.1) from h0 _, show g p.2.1 = u (c1 p.2.1) from h1 _, show h p.2.2 = u (c2 p.2.2) from h2 _]
theorem co_TQ3 {α β γ : Type} {f : α → D} {g : β → D} {h : γ → D} {υ : Type} {u : υ → D} {c0 : α → υ} {c1 : β → υ} {c2 : γ → υ} (h0 : Co f u c0) (h1 : Co g u c1) (h2 : Co h u c2) : Co (eT3 f g h) (eQ u) (fun p => (true, [c0 p.1, c1 p.2.1, c2 p.2.2])) := fun p => by unfold eT3 eQ; simp only [List.map_cons, List.map_nil, show f p.1 = u (c0 p.1) from h0 _, show g p.2.1 = u (c1 p.2.1) from h1 _, show h p.2.2 = u (c2 p.2.2) from h2 _]; rfl
theorem co_SQ3 {α β γ : Type} {f : α → D} {g : β → D} {h : γ → D} {υ : Type} {u : υ → D} {c0 : α → υ} {c1 : β → υ} {c2 : γ → υ} (h0 : Co f u c0) (h1 : Co g u c1) (h2 : Co h u c2) : Co (eS3 f g h) (eQ u) (fun p => (false, [c0 p.1, c1 p.2.1, c2 p.2.2])) := fun p => by unfold eS3 eQ; simp only [List.map_cons, List.map_nil, show f p.1 = u (c0 p.1) from h0 _, show g p.2.1 = u (c1 p.2.1) from h1 _, show h p.2.2 = u (c2 p.2.2) from h2 _]; rfl
def eT4 {α β γ δ : Type} (f : α → D) (g : β → D) (h : γ → D) (i : δ → D) (p : α × β × γ × δ) : D := .node .tup [f p.1, g p.2.1, h p.2.2.1, i p.2.2.2]
def eS4 {α β γ δ : Type} (f : α → D) (g : β → D) (h : γ → D) (i : δ → D) (p : α × β × γ × δ) : D := .node .lst [f p.1, g p.2.1, h p.2.2.1, i p.2.2.2]
def eW4 {α β γ δ : Type} (f : α → D) (g : β → D) (h : γ → D) (i : δ → D) (p : Bool × α × β × γ × δ) : D := .node (sqS p.1) [f p.2.1, g p.2.2.1, h p.2.2.2.1, i p.2.2.2.2]
theorem dq_T4 {α β γ δ : Type} {f : α → D} {g : β → D} {h : γ → D} {i : δ → D} [DecidableEq α] [DecidableEq β] [DecidableEq γ] [DecidableEq δ] (h0 : DeqOk f) (h1 : DeqOk g) (h2 : DeqOk h) (h3 : DeqOk i) : DeqOk (eT4 f g h i) := fun ⟨x0, x1, x2, x3⟩ ⟨y0, y1, y2, y3⟩ => deq_tup.trans (by simp only [deqs, show deq (f x0) (f y0) = decide (x0 = y0) from h0 x0 y0, show deq (g x1) (g y1) = decide (x1 = y1) from h1 x1 y1, show deq (h x2) (h y2) = decide (x2 = y2) from h2 x2 y2, show deq (i x3) (i y3) = decide (x3 = y3) from h3 x3 y3]; simp [Bool.and_true])
theorem sp_T4 {α β γ δ : Type} {f : α → D} {g : β → D} {h : γ → D} {i : δ → D} {n : Nat} (h0 : ShpOk n f) (h1 : ShpOk n g) (h2 : ShpOk n h) (h3 : ShpOk n i) : ShpOk (n + 1) (eT4 f g h i) := fun p => by show shpL n _ = true; simp only [shpL_cons, shpL_nil, h0 _, h1 _, h2 _, h3 _]; rfl
theorem nn_T4 {α β γ δ : Type} {f : α → D} {g : β → D} {h : γ → D} {i : δ → D} : NN (eT4 f g h i) := fun _ z => nomatch z
theorem dq_S4 {α β γ δ : Type} {f : α → D} {g : β → D} {h : γ → D} {i : δ → D} [DecidableEq α] [DecidableEq β] [DecidableEq γ] [DecidableEq δ] (h0 : DeqOk f) (h1 : DeqOk g) (h2 : DeqOk h) (h3 : DeqOk i) : DeqOk (eS4 f g h i) := fun ⟨x0, x1, x2, x3⟩ ⟨y0, y1, y2, y3⟩ => deq_lst.trans (by simp only [deqs, show deq (f x0) (f y0) = decide (x0 = y0) from h0 x0 y0, show deq (g x1) (g y1) = decide (x1 = y1) from h1 x1 y1, show deq (h x2) (h y2) = decide (x2 = y2) from h2 x2 y2, show deq (i x3) (i y3) = decide (x3 = y3) from h3 x3 y3]; simp [Bool.and_true])
theorem sp_S4 {α β γ δ : Type} {f : α → D} {g : β → D} {h : γ → D} {i : δ → D} {n : Nat} (h0 : ShpOk n f) (h1 : ShpOk n g) (h2 : ShpOk n h) (h3 : ShpOk n i) : ShpOk (n + 1) (eS4 f g h i) := fun p => by show shpL n _ = true; simp only [shpL_cons, shpL_nil, h0 _, h1 _, h2 _, h3 _]; rfl
theorem nn_S4 {α β γ δ : Type} {f : α → D} {g : β → D} {h : γ → D} {i : δ → D} : NN (eS4 f g h i) := fun _ z => nomatch z
theorem sp_W4 {α β γ δ : Type} {f : α → D} {g : β → D} {h : γ → D} {i : δ → D} {n : Nat} (h0 : ShpOk n f) (h1 : ShpOk n g) (h2 : ShpOk n h) (h3 : ShpOk n i) : ShpOk (n + 1) (eW4 f g h i) := fun p => by show shp (n + 1) (.node (sqS p.1) _) = true; rw [shp_q]; simp only [shpL_cons, shpL_nil, h0 _, h1 _, h2 _, h3 _]; rfl
theorem nn_W4 {α β γ δ : Type} {f : α → D} {g : β → D} {h : γ → D} {i : δ → D} : NN (eW4 f g h i) := fun _ z => nomatch z
theorem dq_W4 {α β γ δ : Type} {f : α → D} {g : β → D} {h : γ → D} {i : δ → D} [DecidableEq α] [DecidableEq β] [DecidableEq γ] [DecidableEq δ] (h0 : DeqOk f) (h1 : DeqOk g) (h2 : DeqOk h) (h3 : DeqOk i) : DeqOk (eW4 f g h i) := fun ⟨b, x0, x1, x2, x3⟩ ⟨c, y0, y1, y2, y3⟩ => by
  cases b <;> cases c
  · exact (dq_S4 h0 h1 h2 h3 (x0, x1, x2, x3) (y0, y1, y2, y3)).trans (by simp)
  · exact deq_lt.trans (by simp)
  · exact deq_tl.trans (by simp)
  · exact (dq_T4 h0 h1 h2 h3 (x0, x1, x2, x3) (y0, y1, y2, y3)).trans (by simp)
theorem imd_T4 {α β γ δ : Type} {f : α → D} {g : β → D} {h : γ → D} {i : δ → D} (h0 : ImD f) (h1 : ImD g) (h2 : ImD h) (h3 : ImD i) : ImD (eT4 f g h i) := fun p => by show immDs _ = true; simp only [immDs, h0 _, h1 _, h2 _, h3 _]; rfl
theorem co_T4 {α β γ δ : Type} {f : α → D} {g : β → D} {h : γ → D} {i : δ → D} {α' β' γ' δ' : Type} {f' : α' → D} {g' : β' → D} {h' : γ' → D} {i' : δ' → D} {c0 : α → α'} {c1 : β → β'} {c2 : γ → γ'} {c3 : δ → δ'} (h0 : Co f f' c0) (h1 : Co g g' c1) (h2 : Co h h' c2) (h3 : Co i i' c3) : Co (eT4 f g h i) (eT4 f' g' h' i') (fun p => (c0 p.1, c1 p.2.1, c2 p.2.2.1, c3 p.2.2.2)) := fun p => by unfold eT4; simp only [show f p.1 = f' (c0 p.1) from h0 _, show g p.2.1 = g' (c1 p.2.1) from h1 _, show h p.2.2.1 = h' (c2 p.2.2.1) from h2 _, show i p.2.2.2 = i' (c3 p.2.2.2) from h3 _]
theorem co_S4 {α β γ δ : Type} {f : α → D} {g : β → D} {h : γ → D} {i : δ → D} {α' β' γ' δ' : Type} {f' : α' → D} {g' : β' → D} {h' : γ' → D} {i' : δ' → D} {c0 : α → α'} {c1 : β → β'} {c2 : γ → γ'} {c3 : δ → δ'} (h0 : Co f f' c0) (h1 : Co g g' c1) (h2 : Co h h' c2) (h3 : Co i i' c3) : Co (eS4 f g h i) (eS4 f' g' h' i') (fun p => (c0 p.1, c1 p.2.1, c2 p.2.2.1, c3 p.2.2.2)) := fun p => by unfold eS4; simp only [show f p.1 = f' (c0 p.1) from h0 _, show g p.2.1 = g' (c1 p.2.1) from h1 _, show h p.2.2.1 = h' (c2 p.2.2.1) from h2 _, show i p.2.2.2 = i' (c3 p.2.2.2) from h3 _]
theorem co_TW4 {α β γ δ : Type} {f : α → D} {g : β → D} {h : γ → D} {i : δ → D} {α' β' γ' δ' : Type} {f' : α' → D} {g' : β' → D} {h' : γ' → D} {i' : δ' → D} {c0 : α → α'} {c1 : β → β'} {c2 : γ → γ'} {c3 : δ → δ'} (h0 : Co f f' c0) (h1 : Co g g' c1) (h2 : Co h h' c2) (h3 : Co i i' c3) : Co (eT4 f g h i) (eW4 f' g' h' i') (fun p => (true, c0 p.1, c1 p.2.1, c2 p.2.2.1, c3 p.2.2.2)) := fun p => by unfold eT4 eW4; simp only [show f p.1 = f' (c0 p.1) from h0 _, show g p.2.1 = g' (c1 p.2.1) from h1 _, show h p.2.2.1 = h' (c2 p.2.2.1) from h2 _, show i p.2.2.2 = i' (c3 p.2.2.2) from h3 _]; rfl
theorem co_SW4 {α β γ δ : Type} {f : α → D} {g : β → D} {h : γ → D} {i : δ → D} {α' β' γ' δ' : Type} {f' : α' → D} {g' : β' → D} {h' : γ' → D} {i' : δ' → D} {c0 : α → α'} {c1 : β → β'} {c2 : γ → γ'} {c3 : δ → δ'} (h0 : Co f f' c0) (h1 : Co g g' c1) (h2 : Co h h' c2) (h3 : Co i i' c3) : Co (eS4 f g h i) (eW4 f' g' h' i') (fun p => (false, c0 p.1, c1 p.2.1, c2 p.2.2.1, c3 p.2.2.2)) := fun p => by unfold eS4 eW4; simp only [show f p.1 = f' (c0 p.1) from h0 _, show g p.2.1 = g' (c1 p.2.1) from h1 _, show h p.2.2.1 = h' (c2 p.2.2.1) from h2 _, show i p.2.2.2 = i' (c3 p.2.2.2) from h3 _]; rfl
theorem co_TU4 {α β γ δ : Type} {f : α → D} {g : β → D} {h : γ → D} {i : δ → D} {υ : Type} {u : υ → D} {c0 : α → υ} {c1 : β → υ} {c2 : γ → υ} {c3 : δ → υ} (h0 : Co f u c0) (h1 : Co g u c1) (h2 : Co h u c2) (h3 : Co i u c3) : Co (eT4 f g h i) (eU u) (fun p => [c0 p.1, c1 p.2.1, c2 p.2.2.1, c3 p.2.2.2]) := fun p => by unfold eT4 eU; simp only [List.map_cons, List.map_nil, show f p.1 = u (c0 p.1) from h0 _, show g p.2.1 = u (c1 p.2.1) from h1 _, show h p.2.2.1 = u (c2 p.2.2.1) from h2 _, show i p.2.2.2 = u (c3 p.2.2.2) from h3 _]
theorem co_SL4 {α β γ δ : Type} {f : α → D} {g : β → D} {h : γ → D} {i : δ → D} {υ : Type} {u : υ → D} {c0 : α → υ} {c1 : β → υ} {c2 : γ → υ} {c3 : δ → υ} (h0 : Co f u c0) (h1 : Co g u c1) (h2 : Co h u c2) (h3 : Co i u c3) : Co (eS4 f g h i) (eL u) (fun p => [c0 p.1, c1 p.2.1, c2 p.2.2.1, c3 p.2.2.2]) := fun p => by unfold eS4 eL; simp only [List.map_cons, List.map_nil, show f p.1 = u (c0 p.1) from h0 _, show g p.2.1 = u (c1 p.2.1) from h1 _, show h p.2.2.1 = u (c2 p.2.2.1) from h2 _, show i p.2.2.2 = u (c3 p.2.2.2) from h3 _]
theorem co_TQ4 {α β γ δ : Type} {f : α → D} {g : β → D} {h : γ → D} {i : δ → D} {υ : Type} {u : υ → D} {c0 : α → υ} {c1 : β → υ} {c2 : γ → υ} {c3 : δ → υ} (h0 : Co f u c0) (h1 : Co g u c1) (h2 : Co h u c2) (h3 : Co i u c3) : Co (eT4 f g h i) (eQ u) (fun p => (true, [c0 p.1, c1 p.2.1, c2 p.2.2.1, c3 p.2.2.2])) := fun p => by unfold eT4 eQ; simp only [List.map_cons, List.map_nil, show f p.1 = u (c0 p.1) from h0 _, show g p.2.1 = u (c1 p.2.1) from h1 _, show h p.2.2.1 = u (c2 p.2.2.1) from h2 _, show i p.2.2.2 = u (c3 p.2.2.2) from h3 _]; rfl
theorem co_SQ4 {α β γ δ : Type} {f : α → D} {g : β → D} {h : γ → D} {i : δ → D} {υ : Type} {u : υ → D} {c0 : α → υ} {c1 : β → υ} {c2 : γ → υ} {c3 : δ → υ} (h0 : Co f u c0) (h1 : Co g u c1) (h2 : Co h u c2) (h3 : Co i u c3) : Co (eS4 f g h i) (eQ u) (fun p => (false, [c0 p.1, c1 p.2.1, c2 p.2.2.1, c3 p.2.2.2])) := fun p => by unfold eS4 eQ; simp only [List.map_cons, List.map_nil, show f p.1 = u (c0 p.1) from h0 _, show g p.2.1 = u (c1 p.2.1) from h1 _, show h p.2.2.1 = u (c2 p.2.2.1) from h2 _, show i p.2.2.2 = u (c3 p.2.2.2) from h3 _]; rfl
def eT5 {α β γ δ ε : Type} (f : α → D) (g : β → D) (h : γ → D) (i : δ → D) (j : ε → D) (p : α × β × γ × δ × ε) : D := .node .tup [f p.1, g p.2.1, h p.2.2.1, i p.2.2.2.1, j p.2.2.2.2]
def eS5 {α β γ δ ε : Type} (f : α → D) (g : β → D) (h : γ → D) (i : δ → D) (j : ε → D) (p : α × β × γ × δ × ε) : D := .node .lst [f p.1, g p.2.1, h p.2.2.1, i p.2.2.2.1, j p.2.2.2.2]
def eW5 {α β γ δ ε : Type} (f : α → D) (g : β → D) (h : γ → D) (i : δ → D) (j : ε → D) (p : Bool × α × β × γ × δ × ε) : D := .node (sqS p.1) [f p.2.1, g p.2.2.1, h p.2.2.2.1, i p.2.2.2.2.1, j p.2.2.2.2.2]
theorem dq_T5 {α β γ δ ε : Type} {f : α → D} {g : β → D} {h : γ → D} {i : δ → D} {j : ε → D} [DecidableEq α] [DecidableEq β] [DecidableEq γ] [DecidableEq δ] [DecidableEq ε] (h0 : DeqOk f) (h1 : DeqOk g) (h2 : DeqOk h) (h3 : DeqOk i) (h4 : DeqOk j) : DeqOk (eT5 f g h i j) := fun ⟨x0, x1, x2, x3, x4⟩ ⟨y0, y1, y2, y3, y4⟩ => deq_tup.trans (by simp only [deqs, show deq (f x0) (f y0) = decide (x0 = y0) from h0 x0 y0, show deq (g x1) (g y1) = decide (x1 = y1) from h1 x1 y1, show deq (h x2) (h y2) = decide (x2 = y2) from h2 x2 y2, show deq (i x3) (i y3) = decide (x3 = y3) from h3 x3 y3, show deq (j x4) (j y4) = decide (x4 = y4) from h4 x4 y4]; simp [Bool.and_true])
theorem sp_T5 {α β γ δ ε : Type} {f : α → D} {g : β → D} {h : γ → D} {i : δ → D} {j : ε → D} {n : Nat} (h0 : ShpOk n f) (h1 : ShpOk n g) (h2 : ShpOk n h) (h3 : ShpOk n i) (h4 : ShpOk n j) : ShpOk (n + 1) (eT5 f g h i j) := fun p => by show shpL n _ = true; simp only [shpL_cons, shpL_nil, h0 _, h1 _, h2 _, h3 _, h4 _]; rfl
theorem nn_T5 {α β γ δ ε : Type} {f : α → D} {g : β → D} {h : γ → D} {i : δ → D} {j : ε → D} : NN (eT5 f g h i j) := fun _ z => nomatch z
theorem dq_S5 {α β γ δ ε : Type} {f : α → D} {g : β → D} {h : γ → D} {i : δ → D} {j : ε → D} [DecidableEq α] [DecidableEq β] [DecidableEq γ] [DecidableEq δ] [DecidableEq ε] (h0 : DeqOk f) (h1 : DeqOk g) (h2 : DeqOk h) (h3 : DeqOk i) (h4 : DeqOk j) : DeqOk (eS5 f g h i j) := fun ⟨x0, x1, x2, x3, x4⟩ ⟨y0, y1, y2, y3, y4⟩ => deq_lst.trans (by simp only [deqs, show deq (f x0) (f y0) = decide (x0 = y0) from h0 x0 y0, show deq (g x1) (g y1) = decide (x1 = y1) from h1 x1 y1, show deq (h x2) (h y2) = decide (x2 = y2) from h2 x2 y2, show deq (i x3) (i y3) = decide (x3 = y3) from h3 x3 y3, show deq (j x4) (j y4) = decide (x4 = y4) from h4 x4 y4]; simp [Bool.and_true])
theorem sp_S5 {α β γ δ ε : Type} {f : α → D} {g : β → D} {h : γ → D} {i : δ → D} {j : ε → D} {n : Nat} (h0 : ShpOk n f) (h1 : ShpOk n g) (h2 : ShpOk n h) (h3 : ShpOk n i) (h4 : ShpOk n j) : ShpOk (n + 1) (eS5 f g h i j) := fun p => by show shpL n _ = true; simp only [shpL_cons, shpL_nil, h0 _, h1 _, h2 _, h3 _, h4 _]; rfl
theorem nn_S5 {α β γ δ ε : Type} {f : α → D} {g : β → D} {h : γ → D} {i : δ → D} {j : ε → D} : NN (eS5 f g h i j) := fun _ z => nomatch z
theorem sp_W5 {α β γ δ ε : Type} {f : α → D} {g : β → D} {h : γ → D} {i : δ → D} {j : ε → D} {n : Nat} (h0 : ShpOk n f) (h1 : ShpOk n g) (h2 : ShpOk n h) (h3 : ShpOk n i) (h4 : ShpOk n j) : ShpOk (n + 1) (eW5 f g h i j) := fun p => by show shp (n + 1) (.node (sqS p.1) _) = true; rw [shp_q]; simp only [shpL_cons, shpL_nil, h0 _, h1 _, h2 _, h3 _, h4 _]; rfl
theorem nn_W5 {α β γ δ ε : Type} {f : α → D} {g : β → D} {h : γ → D} {i : δ → D} {j : ε → D} : NN (eW5 f g h i j) := fun _ z => nomatch z
theorem dq_W5 {α β γ δ ε : Type} {f : α → D} {g : β → D} {h : γ → D} {i : δ → D} {j : ε → D} [DecidableEq α] [DecidableEq β] [DecidableEq γ] [DecidableEq δ] [DecidableEq ε] (h0 : DeqOk f) (h1 : DeqOk g) (h2 : DeqOk h) (h3 : DeqOk i) (h4 : DeqOk j) : DeqOk (eW5 f g h i j) := fun ⟨b, x0, x1, x2, x3, x4⟩ ⟨c, y0, y1, y2, y3, y4⟩ => by
  cases b <;> cases c
  · exact (dq_S5 h0 h1 h2 h3 h4 (x0, x1, x2, x3, x4) (y0, y1, y2, y3, y4)).trans (by simp)
  · exact deq_lt.trans (by simp)
  · exact deq_tl.trans (by simp)
  · exact (dq_T5 h0 h1 h2 h3 h4 (x0, x1, x2, x3, x4) (y0, y1, y2, y3, y4)).trans (by simp)
theorem imd_T5 {α β γ δ ε : Type} {f : α → D} {g : β → D} {h : γ → D} {i : δ → D} {j : ε → D} (h0 : ImD f) (h1 : ImD g) (h2 : ImD h) (h3 : ImD i) (h4 : ImD j) : ImD (eT5 f g h i j) := fun p => by show immDs _ = true; simp only [immDs, h0 _, h1 _, h2 _, h3 _, h4 _]; rfl
theorem co_T5 {α β γ δ ε : Type} {f : α → D} {g : β → D} {h : γ → D} {i : δ → D} {j : ε → D} {α' β' γ' δ' ε' : Type} {f' : α' → D} {g' : β' → D} {h' : γ' → D} {i' : δ' → D} {j' : ε' → D} {c0 : α → α'} {c1 : β → β'} {c2 : γ → γ'} {c3 : δ → δ'} {c4 : ε → ε'} (h0 : Co f f' c0) (h1 : Co g g' c1) (h2 : Co h h' c2) (h3 : Co i i' c3) (h4 : Co j j' c4) : Co (eT5 f g h i j) (eT5 f' g' h' i' j') (fun p => (c0 p.1, c1 p.2.1, c2 p.2.2.1, c3 p.2.2.2.1, c4 p.2.2.2.2)) := fun p => by unfold eT5; simp only [show f p.1 = f' (c0 p.1) from h0 _, show g p.2.1 = g' (c1 p.2.1) from h1 _, show h p.2.2.1 = h' (c2 p.2.2.1) from h2 _, show i p.2.2.2.1 = i' (c3 p.2.2.2.1) from h3 _, show j p.2.2.2.2 = j' (c4 p.2.2.2.2) from h4 _]
theorem co_S5 {α β γ δ ε : Type} {f : α → D} {g : β → D} {h : γ → D} {i : δ → D} {j : ε → D} {α' β' γ' δ' ε' : Type} {f' : α' → D} {g' : β' → D} {h' : γ' → D} {i' : δ' → D} {j' : ε' → D} {c0 : α → α'} {c1 : β → β'} {c2 : γ → γ'} {c3 : δ → δ'} {c4 : ε → ε'} (h0 : Co f f' c0) (h1 : Co g g' c1) (h2 : Co h h' c2) (h3 : Co i i' c3) (h4 : Co j j' c4) : Co (eS5 f g h i j) (eS5 f' g' h' i' j') (fun p => (c0 p.1, c1 p.2.1, c2 p.2.2.1, c3 p.2.2.2.1, c4 p.2.2.2.2)) := fun p => by unfold eS5; simp only [show f p.1 = f' (c0 p.1) from h0 _, show g p.2.1 = g' (c1 p.2.1) from h1 _, show h p.2.2.1 = h' (c2 p.2.2.1) from h2 _, show i p.2.2.2.1 = i' (c3 p.2.2.2.1) from h3 _, show j p.2.2.2.2 = j' (c4 p.2.2.2.2) from h4 _]
theorem co_TW5 {α β γ δ ε : Type} {f : α → D} {g : β → D} {h : γ → D} {i : δ → D} {j : ε → D} {α' β' γ' δ' ε' : Type} {f' : α' → D} {g' : β' → D} {h' : γ' → D} {i' : δ' → D} {j' : ε' → D} {c0 : α → α'} {c1 : β → β'} {c2 : γ → γ'} {c3 : δ → δ'} {c4 : ε → ε'} (h0 : Co f f' c0) (h1 : Co g g' c1) (h2 : Co h h' c2) (h3 : Co i i' c3) (h4 : Co j j' c4) : Co (eT5 f g h i j) (eW5 f' g' h' i' j') (fun p => (true, c0 p.1, c1 p.2.1, c2 p.2.2.1, c3 p.2.2.2.1, c4 p.2.2.2.2)) := fun p => by unfold eT5 eW5; simp only [show f p.1 = f' (c0 p.1) from h0 _, show g p.2.1 = g' (c1 p.2.1) from h1 _, show h p.2.2.1 = h' (c2 p.2.2.1) from h2 _, show i p.2.2.2.1 = i' (c3 p.2.2.2.1) from h3 _, show j p.2.2.2.2 = j' (c4 p.2.2.2.2) from h4 _]; rfl
theorem co_SW5 {α β γ δ ε : Type} {f : α → D} {g : β → D} {h : γ → D} {i : δ → D} {j : ε → D} {α' β' γ' δ' ε' : Type} {f' : α' → D} {g' : β' → D} {h' : γ' → D} {i' : δ' → D} {j' : ε' → D} {c0 : α → α'} {c1 : β → β'} {c2 : γ → γ'} {c3 : δ → δ'} {c4 : ε → ε'} (h0 : Co f f' c0) (h1 : Co g g' c1) (h2 : Co h h' c2) (h3 : Co i i' c3) (h4 : Co j j' c4) : Co (eS5 f g h i j) (eW5 f' g' h' i' j') (fun p => (false, c0 p.1, c1 p.2.1, c2 p.2.2.1, c3 p.2.2.2.1, c4 p.2.2.2.2)) := fun p => by unfold eS5 eW5; simp only [show f p.1 = f' (c0 p.1) from h0 _, show g p.2.1 = g' (c1 p.2.1) from h1 _, show h p.2.2.1 = h' (c2 p.2.2.1) from h2 _, show i p.2.2.2.1 = i' (c3 p.2.2.2.1) from h3 _, show j p.2.2.2.2 = j' (c4 p.2.2.2.2) from h4 _]; rfl
theorem co_TU5 {α β γ δ ε : Type} {f : α → D} {g : β → D} {h : γ → D} {i : δ → D} {j : ε → D} {υ : Type} {u : υ → D} {c0 : α → υ} {c1 : β → υ} {c2 : γ → υ} {c3 : δ → υ} {c4 : ε → υ} (h0 : Co f u c0) (h1 : Co g u c1) (h2 : Co h u c2) (h3 : Co i u c3) (h4 : Co j u c4) : Co (eT5 f g h i j) (eU u) (fun p => [c0 p.1, c1 p.2.1, c2 p.2.2.1, c3 p.2.2.2.1, c4 p.2.2.2.2]) := fun p => by unfold eT5 eU; simp only [List.map_cons, List.map_nil, show f p.1 = u (c0 p.1) from h0 _, show g p.2.1 = u (c1 p.2.1) from h1 _, show h p.2.2.1 = u (c2 p.2.2.1) from h2 _, show i p.2.2.2.1 = u (c3 p.2.2.2.1) from h3 _, show j p.2.2.2.2 = u (c4 p.2.2.2.2) from h4 _]
theorem co_SL5 {α β γ δ ε : Type} {f : α → D} {g : β → D} {h : γ → D} {i : δ → D} {j : ε → D} {υ : Type} {u : υ → D} {c0 : α → υ} {c1 : β → υ} {c2 : γ → υ} {c3 : δ → υ} {c4 : ε → υ} (h0 : Co f u c0) (h1 : Co g u c1) (h2 : Co h u c2) (h3 : Co i u c3) (h4 : Co j u c4) : Co (eS5 f g h i j) (eL u) (fun p => [c0 p.1, c1 p.2.1, c2 p.2.2.1, c3 p.2.2.2.1, c4 p.2.2.2.2]) := fun p => by unfold eS5 eL; simp only [List.map_cons, List.map_nil, show f p.1 = u (c0 p.1) from h0 _, show g p.2.1 = u (c1 p.2.1) from h1 _, show h p.2.2.1 = u (c2 p.2.2.1) from h2 _, show i p.2.2.2.1 = u (c3 p.2.2.2.1) from h3 _, show j p.2.2.2.2 = u (c4 p.2.2.2.2) from h4 _]
theorem co_TQ5 {α β γ δ ε : Type} {f : α → D} {g : β → D} {h : γ → D} {i : δ → D} {j : ε → D} {υ : Type} {u : υ → D} {c0 : α → υ} {c1 : β → υ} {c2 : γ → υ} {c3 : δ → υ} {c4 : ε → υ} (h0 : Co f u c0) (h1 : Co g u c1) (h2 : Co h u c2) (h3 : Co i u c3) (h4 : Co j u c4) : Co (eT5 f g h i j) (eQ u) (fun p => (true, [c0 p.1, c1 p.2.1, c2 p.2.2.1, c3 p.2.2.2.1, c4 p.2.2.2.2])) := fun p => by unfold eT5 eQ; simp only [List.map_cons, List.map_nil, show f p.1 = u (c0 p.1) from h0 _, show g p.2.1 = u (c1 p.2.1) from h1 _, show h p.2.2.1 = u (c2 p.2.2.1) from h2 _, show i p.2.2.2.1 = u (c3 p.2.2.2.1) from h3 _, show j p.2.2.2.2 = u (c4 p.2.2.2.2) from h4 _]; rfl
theorem co_SQ5 {α β γ δ ε : Type} {f : α → D} {g : β → D} {h : γ → D} {i : δ → D} {j : ε → D} {υ : Type} {u : υ → D} {c0 : α → υ} {c1 : β → υ} {c2 : γ → υ} {c3 : δ → υ} {c4 : ε → υ} (h0 : Co f u c0) (h1 : Co g u c1) (h2 : Co h u c2) (h3 : Co i u c3) (h4 : Co j u c4) : Co (eS5 f g h i j) (eQ u) (fun p => (false, [c0 p.1, c1 p.2.1, c2 p.2.2.1, c3 p.2.2.2.1, c4 p.2.2.2.2])) := fun p => by unfold eS5 eQ; simp only [List.map_cons, List.map_nil, show f p.1 = u (c0 p.1) from h0 _, show g p.2.1 = u (c1 p.2.1) from h1 _, show h p.2.2.1 = u (c2 p.2.2.1) from h2 _, show i p.2.2.2.1 = u (c3 p.2.2.2.1) from h3 _, show j p.2.2.2.2 = u (c4 p.2.2.2.2) from h4 _]; rfl
def eT6 {α β γ δ ε ζ : Type} (f : α → D) (g : β → D) (h : γ → D) (i : δ → D) (j : ε → D) (k : ζ → D) (p : α × β × γ × δ × ε × ζ) : D := .node .tup [f p.1, g p.2.1, h p.2.2.1, i p.2.2.2.1, j p.2.2.2.2.1, k p.2.2.2.2.2]
def eS6 {α β γ δ ε ζ : Type} (f : α → D) (g : β → D) (h : γ → D) (i : δ → D) (j : ε → D) (k : ζ → D) (p : α × β × γ × δ × ε × ζ) : D := .node .lst [f p.1, g p.2.1, h p.2.2.1, i p.2.2.2.1, j p.2.2.2.2.1, k p.2.2.2.2.2]
def eW6 {α β γ δ ε ζ : Type} (f : α → D) (g : β → D) (h : γ → D) (i : δ → D) (j : ε → D) (k : ζ → D) (p : Bool × α × β × γ × δ × ε × ζ) : D := .node (sqS p.1) [f p.2.1, g p.2.2.1, h p.2.2.2.1, i p.2.2.2.2.1, j p.2.2.2.2.2.1, k p.2.2.2.2.2.2]
theorem dq_T6 {α β γ δ ε ζ : Type} {f : α → D} {g : β → D} {h : γ → D} {i : δ → D} {j : ε → D} {k : ζ → D} [DecidableEq α] [DecidableEq β] [DecidableEq γ] [DecidableEq δ] [DecidableEq ε] [DecidableEq ζ] (h0 : DeqOk f) (h1 : DeqOk g) (h2 : DeqOk h) (h3 : DeqOk i) (h4 : DeqOk j) (h5 : DeqOk k) : DeqOk (eT6 f g h i j k) := fun ⟨x0, x1, x2, x3, x4, x5⟩ ⟨y0, y1, y2, y3, y4, y5⟩ => deq_tup.trans (by simp only [deqs, show deq (f x0) (f y0) = decide (x0 = y0) from h0 x0 y0, show deq (g x1) (g y1) = decide (x1 = y1) from h1 x1 y1, show deq (h x2) (h y2) = decide (x2 = y2) from h2 x2 y2, show deq (i x3) (i y3) = decide (x3 = y3) from h3 x3 y3, show deq (j x4) (j y4) = decide (x4 = y4) from h4 x4 y4, show deq (k x5) (k y5) = decide (x5 = y5) from h5 x5 y5]; simp [Bool.and_true])
theorem sp_T6 {α β γ δ ε ζ : Type} {f : α → D} {g : β → D} {h : γ → D} {i : δ → D} {j : ε → D} {k : ζ → D} {n : Nat} (h0 : ShpOk n f) (h1 : ShpOk n g) (h2 : ShpOk n h) (h3 : ShpOk n i) (h4 : ShpOk n j) (h5 : ShpOk n k) : ShpOk (n + 1) (eT6 f g h i j k) := fun p => by show shpL n _ = true; simp only [shpL_cons, shpL_nil, h0 _, h1 _, h2 _, h3 _, h4 _, h5 _]; rfl
theorem nn_T6 {α β γ δ ε ζ : Type} {f : α → D} {g : β → D} {h : γ → D} {i : δ → D} {j : ε → D} {k : ζ → D} : NN (eT6 f g h i j k) := fun _ z => nomatch z
theorem dq_S6 {α β γ δ ε ζ : Type} {f : α → D} {g : β → D} {h : γ → D} {i : δ → D} {j : ε → D} {k : ζ → D} [DecidableEq α] [DecidableEq β] [DecidableEq γ] [DecidableEq δ] [DecidableEq ε] [DecidableEq ζ] (h0 : DeqOk f) (h1 : DeqOk g) (h2 : DeqOk h) (h3 : DeqOk i) (h4 : DeqOk j) (h5 : DeqOk k) : DeqOk (eS6 f g h i j k) := fun ⟨x0, x1, x2, x3, x4, x5⟩ ⟨y0, y1, y2, y3, y4, y5⟩ => deq_lst.trans (by simp only [deqs, show deq (f x0) (f y0) = decide (x0 = y0) from h0 x0 y0, show deq (g x1) (g y1) = decide (x1 = y1) from h1 x1 y1, show deq (h x2) (h y2) = decide (x2 = y2) from h2 x2 y2, show deq (i x3) (i y3) = decide (x3 = y3) from h3 x3 y3, show deq (j x4) (j y4) = decide (x4 = y4) from h4 x4 y4, show deq (k x5) (k y5) = decide (x5 = y5) from h5 x5 y5]; simp [Bool.and_true])
theorem sp_S6 {α β γ δ ε ζ : Type} {f : α → D} {g : β → D} {h : γ → D} {i : δ → D} {j : ε → D} {k : ζ → D} {n : Nat} (h0 : ShpOk n f) (h1 : ShpOk n g) (h2 : ShpOk n h) (h3 : ShpOk n i) (h4 : ShpOk n j) (h5 : ShpOk n k) : ShpOk (n + 1) (eS6 f g h i j k) := fun p => by show shpL n _ = true; simp only [shpL_cons, shpL_nil, h0 _, h1 _, h2 _, h3 _, h4 _, h5 _]; rfl
theorem nn_S6 {α β γ δ ε ζ : Type} {f : α → D} {g : β → D} {h : γ → D} {i : δ → D} {j : ε → D} {k : ζ → D} : NN (eS6 f g h i j k) := fun _ z => nomatch z
theorem sp_W6 {α β γ δ ε ζ : Type} {f : α → D} {g : β → D} {h : γ → D} {i : δ → D} {j : ε → D} {k : ζ → D} {n : Nat} (h0 : ShpOk n f) (h1 : ShpOk n g) (h2 : ShpOk n h) (h3 : ShpOk n i) (h4 : ShpOk n j) (h5 : ShpOk n k) : ShpOk (n + 1) (eW6 f g h i j k) := fun p => by show shp (n + 1) (.node (sqS p.1) _) = true; rw [shp_q]; simp only [shpL_cons, shpL_nil, h0 _, h1 _, h2 _, h3 _, h4 _, h5 _]; rfl
theorem nn_W6 {α β γ δ ε ζ : Type} {f : α → D} {g : β → D} {h : γ → D} {i : δ → D} {j : ε → D} {k : ζ → D} : NN (eW6 f g h i j k) := fun _ z => nomatch z
theorem dq_W6 {α β γ δ ε ζ : Type} {f : α → D} {g : β → D} {h : γ → D} {i : δ → D} {j : ε → D} {k : ζ → D} [DecidableEq α] [DecidableEq β] [DecidableEq γ] [DecidableEq δ] [DecidableEq ε] [DecidableEq ζ] (h0 : DeqOk f) (h1 : DeqOk g) (h2 : DeqOk h) (h3 : DeqOk i) (h4 : DeqOk j) (h5 : DeqOk k) : DeqOk (eW6 f g h i j k) := fun ⟨b, x0, x1, x2, x3, x4, x5⟩ ⟨c, y0, y1, y2, y3, y4, y5⟩ => by
  cases b <;> cases c
  · exact (dq_S6 h0 h1 h2 h3 h4 h5 (x0, x1, x2, x3, x4, x5) (y0, y1, y2, y3, y4, y5)).trans (by simp)
  · exact deq_lt.trans (by simp)
  · exact deq_tl.trans (by simp)
  · exact (dq_T6 h0 h1 h2 h3 h4 h5 (x0, x1, x2, x3, x4, x5) (y0, y1, y2, y3, y4, y5)).trans (by simp)
theorem imd_T6 {α β γ δ ε ζ : Type} {f : α → D} {g : β → D} {h : γ → D} {i : δ → D} {j : ε → D} {k : ζ → D} (h0 : ImD f) (h1 : ImD g) (h2 : ImD h) (h3 : ImD i) (h4 : ImD j) (h5 : ImD k) : ImD (eT6 f g h i j k) := fun p => by show immDs _ = true; simp only [immDs, h0 _, h1 _, h2 _, h3 _, h4 _, h5 _]; rfl
theorem co_T6 {α β γ δ ε ζ : Type} {f : α → D} {g : β → D} {h : γ → D} {i : δ → D} {j : ε → D} {k : ζ → D} {α' β' γ' δ' ε' ζ' : Type} {f' : α' → D} {g' : β' → D} {h' : γ' → D} {i' : δ' → D} {j' : ε' → D} {k' : ζ' → D} {c0 : α → α'} {c1 : β → β'} {c2 : γ → γ'} {c3 : δ → δ'} {c4 : ε → ε'} {c5 : ζ → ζ'} (h0 : Co f f' c0) (h1 : Co g g' c1) (h2 : Co h h' c2) (h3 : Co i i' c3) (h4 : Co j j' c4) (h5 : Co k k' c5) : Co (eT6 f g h i j k) (eT6 f' g' h' i' j' k') (fun p => (c0 p.1, c1 p.2.1, c2 p.2.2.1, c3 p.2.2.2.1, c4 p.2.2.2.2.1, c5 p.2.2.2.2.2)) := fun p => by unfold eT6; simp only [show f p.1 = f' (c0 p.1) from h0 _, show g p.2.1 = g' (c1 p.2.1) from h1 _, show h p.2.2.1 = h' (c2 p.2.2.1) from h2 _, show i p.2.2.2.1 = i' (c3 p.2.2.2.1) from h3 _, show j p.2.2.2.2.1 = j' (c4 p.2.2.2.2.1) from h4 _, show k p.2.2.2.2.2 = k' (c5 p.2.2.2.2.2) from h5 _]
theorem co_S6 {α β γ δ ε ζ : Type} {f : α → D} {g : β → D} {h : γ → D} {i : δ → D} {j : ε → D} {k : ζ → D} {α' β' γ' δ' ε' ζ' : Type} {f' : α' → D} {g' : β' → D} {h' : γ' → D} {i' : δ' → D} {j' : ε' → D} {k' : ζ' → D} {c0 : α → α'} {c1 : β → β'} {c2 : γ → γ'} {c3 : δ → δ'} {c4 : ε → ε'} {c5 : ζ → ζ'} (h0 : Co f f' c0) (h1 : Co g g' c1) (h2 : Co h h' c2) (h3 : Co i i' c3) (h4 : Co j j' c4) (h5 : Co k k' c5) : Co (eS6 f g h i j k) (eS6 f' g' h' i' j' k') (fun p => (c0 p.1, c1 p.2.1, c2 p.2.2.1, c3 p.2.2.2.1, c4 p.2.2.2.2.1, c5 p.2.2.2.2.2)) := fun p => by unfold eS6; simp only [show f p.1 = f' (c0 p.1) from h0 _, show g p.2.1 = g' (c1 p.2.1) from h1 _, show h p.2.2.1 = h' (c2 p.2.2.1) from h2 _, show i p.2.2.2.1 = i' (c3 p.2.2.2.1) from h3 _, show j p.2.2.2.2.1 = j' (c4 p.2.2.2.2.1) from h4 _, show k p.2.2.2.2.2 = k' (c5 p.2.2.2.2.2) from h5 _]
theorem co_TW6 {α β γ δ ε ζ : Type} {f : α → D} {g : β → D} {h : γ → D} {i : δ → D} {j : ε → D} {k : ζ → D} {α' β' γ' δ' ε' ζ' : Type} {f' : α' → D} {g' : β' → D} {h' : γ' → D} {i' : δ' → D} {j' : ε' → D} {k' : ζ' → D} {c0 : α → α'} {c1 : β → β'} {c2 : γ → γ'} {c3 : δ → δ'} {c4 : ε → ε'} {c5 : ζ → ζ'} (h0 : Co f f' c0) (h1 : Co g g' c1) (h2 : Co h h' c2) (h3 : Co i i' c3) (h4 : Co j j' c4) (h5 : Co k k' c5) : Co (eT6 f g h i j k) (eW6 f' g' h' i' j' k') (fun p => (true, c0 p.1, c1 p.2.1, c2 p.2.2.1, c3 p.2.2.2.1, c4 p.2.2.2.2.1, c5 p.2.2.2.2.2)) := fun p => by unfold eT6 eW6; simp only [show f p.1 = f' (c0 p.1) from h0 _, show g p.2.1 = g' (c1 p.2.1) from h1 _, show h p.2.2.1 = h' (c2 p.2.2.1) from h2 _, show i p.2.2.2.1 = i' (c3 p.2.2.2.1) from h3 _, show j p.2.2.2.2.1 = j' (c4 p.2.2.2.2.1) from h4 _, show k p.2.2.2.2.2 = k' (c5 p.2.2.2.2.2) from h5 _]; rfl
theorem co_SW6 {α β γ δ ε ζ : Type} {f : α → D} {g : β → D} {h : γ → D} {i : δ → D} {j : ε → D} {k : ζ → D} {α' β' γ' δ' ε' ζ' : Type} {f' : α' → D} {g' : β' → D} {h' : γ' → D} {i' : δ' → D} {j' : ε' → D} {k' : ζ' → D} {c0 : α → α'} {c1 : β → β'} {c2 : γ → γ'} {c3 : δ → δ'} {c4 : ε → ε'} {c5 : ζ → ζ'} (h0 : Co f f' c0) (h1 : Co g g' c1) (h2 : Co h h' c2) (h3 : Co i i' c3) (h4 : Co j j' c4) (h5 : Co k k' c5) : Co (eS6 f g h i j k) (eW6 f' g' h' i' j' k') (fun p => (false, c0 p.1, c1 p.2.1, c2 p.2.2.1, c3 p.2.2.2.1, c4 p.2.2.2.2.1, c5 p.2.2.2.2.2)) := fun p => by unfold eS6 eW6; simp only [show f p.1 = f' (c0 p.1) from h0 _, show g p.2.1 = g' (c1 p.2.1) from h1 _, show h p.2.2.1 = h' (c2 p.2.2.1) from h2 _, show i p.2.2.2.1 = i' (c3 p.2.2.2.1) from h3 _, show j p.2.2.2.2.1 = j' (c4 p.2.2.2.2.1) from h4 _, show k p.2.2.2.2.2 = k' (c5 p.2.2.2.2.2) from h5 _]; rfl
theorem co_TU6 {α β γ δ ε ζ : Type} {f : α → D} {g : β → D} {h : γ → D} {i : δ → D} {j : ε → D} {k : ζ → D} {υ : Type} {u : υ → D} {c0 : α → υ} {c1 : β → υ} {c2 : γ → υ} {c3 : δ → υ} {c4 : ε → υ} {c5 : ζ → υ} (h0 : Co f u c0) (h1 : Co g u c1) (h2 : Co h u c2) (h3 : Co i u c3) (h4 : Co j u c4) (h5 : Co k u c5) : Co (eT6 f g h i j k) (eU u) (fun p => [c0 p.1, c1 p.2.1, c2 p.2.2.1, c3 p.2.2.2.1, c4 p.2.2.2.2.1, c5 p.2.2.2.2.2]) := fun p => by unfold eT6 eU; simp only [List.map_cons, List.map_nil, show f p.1 = u (c0 p.1) from h0 _, show g p.2.1 = u (c1 p.2.1) from h1 _, show h p.2.2.1 = u (c2 p.2.2.1) from h2 _, show i p.2.2.2.1 = u (c3 p.2.2.2.1) from h3 _, show j p.2.2.2.2.1 = u (c4 p.2.2.2.2.1) from h4 _, show k p.2.2.2.2.2 = u (c5 p.2.2.2.2.2) from h5 _]
theorem co_SL6 {α β γ δ ε ζ : Type} {f : α → D} {g : β → D} {h : γ → D} {i : δ → D} {j : ε → D} {k : ζ → D} {υ : Type} {u : υ → D} {c0 : α → υ} {c1 : β → υ} {c2 : γ → υ} {c3 : δ → υ} {c4 : ε → υ} {c5 : ζ → υ} (h0 : Co f u c0) (h1 : Co g u c1) (h2 : Co h u c2) (h3 : Co i u c3) (h4 : Co j u c4) (h5 : Co k u c5) : Co (eS6 f g h i j k) (eL u) (fun p => [c0 p.1, c1 p.2.1, c2 p.2.2.1, c3 p.2.2.2.1, c4 p.2.2.2.2.1, c5 p.2.2.2.2.2]) := fun p => by unfold eS6 eL; simp only [List.map_cons, List.map_nil, show f p.1 = u (c0 p.1) from h0 _, show g p.2.1 = u (c1 p.2.1) from h1 _, show h p.2.2.1 = u (c2 p.2.2.1) from h2 _, show i p.2.2.2.1 = u (c3 p.2.2.2.1) from h3 _, show j p.2.2.2.2.1 = u (c4 p.2.2.2.2.1) from h4 _, show k p.2.2.2.2.2 = u (c5 p.2.2.2.2.2) from h5 _]
theorem co_TQ6 {α β γ δ ε ζ : Type} {f : α → D} {g : β → D} {h : γ → D} {i : δ → D} {j : ε → D} {k : ζ → D} {υ : Type} {u : υ → D} {c0 : α → υ} {c1 : β → υ} {c2 : γ → υ} {c3 : δ → υ} {c4 : ε → υ} {c5 : ζ → υ} (h0 : Co f u c0) (h1 : Co g u c1) (h2 : Co h u c2) (h3 : Co i u c3) (h4 : Co j u c4) (h5 : Co k u c5) : Co (eT6 f g h i j k) (eQ u) (fun p => (true, [c0 p.1, c1 p.2.1, c2 p.2.2.1, c3 p.2.2.2.1, c4 p.2.2.2.2.1, c5 p.2.2.2.2.2])) := fun p => by unfold eT6 eQ; simp only [List.map_cons, List.map_nil, show f p.1 = u (c0 p.1) from h0 _, show g p.2.1 = u (c1 p.2.1) from h1 _, show h p.2.2.1 = u (c2 p.2.2.1) from h2 _, show i p.2.2.2.1 = u (c3 p.2.2.2.1) from h3 _, show j p.2.2.2.2.1 = u (c4 p.2.2.2.2.1) from h4 _, show k p.2.2.2.2.2 = u (c5 p.2.2.2.2.2) from h5 _]; rfl
theorem co_SQ6 {α β γ δ ε ζ : Type} {f : α → D} {g : β → D} {h : γ → D} {i : δ → D} {j : ε → D} {k : ζ → D} {υ : Type} {u : υ → D} {c0 : α → υ} {c1 : β → υ} {c2 : γ → υ} {c3 : δ → υ} {c4 : ε → υ} {c5 : ζ → υ} (h0 : Co f u c0) (h1 : Co g u c1) (h2 : Co h u c2) (h3 : Co i u c3) (h4 : Co j u c4) (h5 : Co k u c5) : Co (eS6 f g h i j k) (eQ u) (fun p => (false, [c0 p.1, c1 p.2.1, c2 p.2.2.1, c3 p.2.2.2.1, c4 p.2.2.2.2.1, c5 p.2.2.2.2.2])) := fun p => by unfold eS6 eQ; simp only [List.map_cons, List.map_nil, show f p.1 = u (c0 p.1) from h0 _, show g p.2.1 = u (c1 p.2.1) from h1 _, show h p.2.2.1 = u (c2 p.2.2.1) from h2 _, show i p.2.2.2.1 = u (c3 p.2.2.2.1) from h3 _, show j p.2.2.2.2.1 = u (c4 p.2.2.2.2.1) from h4 _, show k p.2.2.2.2.2 = u (c5 p.2.2.2.2.2) from h5 _]; rfl
def eT7 {α β γ δ ε ζ η : Type} (f : α → D) (g : β → D) (h : γ → D) (i : δ → D) (j : ε → D) (k : ζ → D) (l : η → D) (p : α × β × γ × δ × ε × ζ × η) : D := .node .tup [f p.1, g p.2.1, h p.2.2.1, i p.2.2.2.1, j p.2.2.2.2.1, k p.2.2.2.2.2.1, l p.2.2.2.2.2.2]
def eS7 {α β γ δ ε ζ η : Type} (f : α → D) (g : β → D) (h : γ → D) (i : δ → D) (j : ε → D) (k : ζ → D) (l : η → D) (p : α × β × γ × δ × ε × ζ × η) : D := .node .lst [f p.1, g p.2.1, h p.2.2.1, i p.2.2.2.1, j p.2.2.2.2.1, k p.2.2.2.2.2.1, l p.2.2.2.2.2.2]
def eW7 {α β γ δ ε ζ η : Type} (f : α → D) (g : β → D) (h : γ → D) (i : δ → D) (j : ε → D) (k : ζ → D) (l : η → D) (p : Bool × α × β × γ × δ × ε × ζ × η) : D := .node (sqS p.1) [f p.2.1, g p.2.2.1, h p.2.2.2.1, i p.2.2.2.2.1, j p.2.2.2.2.2.1, k p.2.2.2.2.2.2.1, l p.2.2.2.2.2.2.2]
theorem dq_T7 {α β γ δ ε ζ η : Type} {f : α → D} {g : β → D} {h : γ → D} {i : δ → D} {j : ε → D} {k : ζ → D} {l : η → D} [DecidableEq α] [DecidableEq β] [DecidableEq γ] [DecidableEq δ] [DecidableEq ε] [DecidableEq ζ] [DecidableEq η] (h0 : DeqOk f) (h1 : DeqOk g) (h2 : DeqOk h) (h3 : DeqOk i) (h4 : DeqOk j) (h5 : DeqOk k) (h6 : DeqOk l) : DeqOk (eT7 f g h i j k l) := fun ⟨x0, x1, x2, x3, x4, x5, x6⟩ ⟨y0, y1, y2, y3, y4, y5, y6⟩ => deq_tup.trans (by simp only [deqs, show deq (f x0) (f y0) = decide (x0 = y0) from h0 x0 y0, show deq (g x1) (g y1) = decide (x1 = y1) from h1 x1 y1, show deq (h x2) (h y2) = decide (x2 = y2) from h2 x2 y2, show deq (i x3) (i y3) = decide (x3 = y3) from h3 x3 y3, show deq (j x4) (j y4) = decide (x4 = y4) from h4 x4 y4, show deq (k x5) (k y5) = decide (x5 = y5) from h5 x5 y5, show deq (l x6) (l y6) = decide (x6 = y6) from h6 x6 y6]; simp [Bool.and_true])
theorem sp_T7 {α β γ δ ε ζ η : Type} {f : α → D} {g : β → D} {h : γ → D} {i : δ → D} {j : ε → D} {k : ζ → D} {l : η → D} {n : Nat} (h0 : ShpOk n f) (h1 : ShpOk n g) (h2 : ShpOk n h) (h3 : ShpOk n i) (h4 : ShpOk n j) (h5 : ShpOk n k) (h6 : ShpOk n l) : ShpOk (n + 1) (eT7 f g h i j k l) := fun p => by show shpL n _ = true; simp only [shpL_cons, shpL_nil, h0 _, h1 _, h2 _, h3 _, h4 _, h5 _, h6 _]; rfl
theorem nn_T7 {α β γ δ ε ζ η : Type} {f : α → D} {g : β → D} {h : γ → D} {i : δ → D} {j : ε → D} {k : ζ → D} {l : η → D} : NN (eT7 f g h i j k l) := fun _ z => nomatch z
theorem dq_S7 {α β γ δ ε ζ η : Type} {f : α → D} {g : β → D} {h : γ → D} {i : δ → D} {j : ε → D} {k : ζ → D} {l : η → D} [DecidableEq α] [DecidableEq β] [DecidableEq γ] [DecidableEq δ] [DecidableEq ε] [DecidableEq ζ] [DecidableEq η] (h0 : DeqOk f) (h1 : DeqOk g) (h2 : DeqOk h) (h3 : DeqOk i) (h4 : DeqOk j) (h5 : DeqOk k) (h6 : DeqOk l) : DeqOk (eS7 f g h i j k l) := fun ⟨x0, x1, x2, x3, x4, x5, x6⟩ ⟨y0, y1, y2, y3, y4, y5, y6⟩ => deq_lst.trans (by simp only [deqs, show deq (f x0) (f y0) = decide (x0 = y0) from h0 x0 y0, show deq (g x1) (g y1) = decide (x1 = y1) from h1 x1 y1, show deq (h x2) (h y2) = decide (x2 = y2) from h2 x2 y2, show deq (i x3) (i y3) = decide (x3 = y3) from h3 x3 y3, show deq (j x4) (j y4) = decide (x4 = y4) from h4 x4 y4, show deq (k x5) (k y5) = decide (x5 = y5) from h5 x5 y5, show deq (l x6) (l y6) = decide (x6 = y6) from h6 x6 y6]; simp [Bool.and_true])
theorem sp_S7 {α β γ δ ε ζ η : Type} {f : α → D} {g : β → D} {h : γ → D} {i : δ → D} {j : ε → D} {k : ζ → D} {l : η → D} {n : Nat} (h0 : ShpOk n f) (h1 : ShpOk n g) (h2 : ShpOk n h) (h3 : ShpOk n i) (h4 : ShpOk n j) (h5 : ShpOk n k) (h6 : ShpOk n l) : ShpOk (n + 1) (eS7 f g h i j k l) := fun p => by show shpL n _ = true; simp only [shpL_cons, shpL_nil, h0 _, h1 _, h2 _, h3 _, h4 _, h5 _, h6 _]; rfl
theorem nn_S7 {α β γ δ ε ζ η : Type} {f : α → D} {g : β → D} {h : γ → D} {i : δ → D} {j : ε → D} {k : ζ → D} {l : η → D} : NN (eS7 f g h i j k l) := fun _ z => nomatch z
theorem sp_W7 {α β γ δ ε ζ η : Type} {f : α → D} {g : β → D} {h : γ → D} {i : δ → D} {j : ε → D} {k : ζ → D} {l : η → D} {n : Nat} (h0 : ShpOk n f) (h1 : ShpOk n g) (h2 : ShpOk n h) (h3 : ShpOk n i) (h4 : ShpOk n j) (h5 : ShpOk n k) (h6 : ShpOk n l) : ShpOk (n + 1) (eW7 f g h i j k l) := fun p => by show shp (n + 1) (.node (sqS p.1) _) = true; rw [shp_q]; simp only [shpL_cons, shpL_nil, h0 _, h1 _, h2 _, h3 _, h4 _, h5 _, h6 _]; rfl
theorem nn_W7 {α β γ δ ε ζ η : Type} {f : α → D} {g : β → D} {h : γ → D} {i : δ → D} {j : ε → D} {k : ζ → D} {l : η → D} : NN (eW7 f g h i j k l) := fun _ z => nomatch z
theorem dq_W7 {α β γ δ ε ζ η : Type} {f : α → D} {g : β → D} {h : γ → D} {i : δ → D} {j : ε → D} {k : ζ → D} {l : η → D} [DecidableEq α] [DecidableEq β] [DecidableEq γ] [DecidableEq δ] [DecidableEq ε] [DecidableEq ζ] [DecidableEq η] (h0 : DeqOk f) (h1 : DeqOk g) (h2 : DeqOk h) (h3 : DeqOk i) (h4 : DeqOk j) (h5 : DeqOk k) (h6 : DeqOk l) : DeqOk (eW7 f g h i j k l) := fun ⟨b, x0, x1, x2, x3, x4, x5, x6⟩ ⟨c, y0, y1, y2, y3, y4, y5, y6⟩ => by
  cases b <;> cases c
  · exact (dq_S7 h0 h1 h2 h3 h4 h5 h6 (x0, x1, x2, x3, x4, x5, x6) (y0, y1, y2, y3, y4, y5, y6)).trans (by simp)
  · exact deq_lt.trans (by simp)
  · exact deq_tl.trans (by simp)
  · exact (dq_T7 h0 h1 h2 h3 h4 h5 h6 (x0, x1, x2, x3, x4, x5, x6) (y0, y1, y2, y3, y4, y5, y6)).trans (by simp)
theorem imd_T7 {α β γ δ ε ζ η : Type} {f : α → D} {g : β → D} {h : γ → D} {i : δ → D} {j : ε → D} {k : ζ → D} {l : η → D} (h0 : ImD f) (h1 : ImD g) (h2 : ImD h) (h3 : ImD i) (h4 : ImD j) (h5 : ImD k) (h6 : ImD l) : ImD (eT7 f g h i j k l) := fun p => by show immDs _ = true; simp only [immDs, h0 _, h1 _, h2 _, h3 _, h4 _, h5 _, h6 _]; rfl
theorem co_T7 {α β γ δ ε ζ η : Type} {f : α → D} {g : β → D} {h : γ → D} {i : δ → D} {j : ε → D} {k : ζ → D} {l : η → D} {α' β' γ' δ' ε' ζ' η' : Type} {f' : α' → D} {g' : β' → D} {h' : γ' → D} {i' : δ' → D} {j' : ε' → D} {k' : ζ' → D} {l' : η' → D} {c0 : α → α'} {c1 : β → β'} {c2 : γ → γ'} {c3 : δ → δ'} {c4 : ε → ε'} {c5 : ζ → ζ'} {c6 : η → η'} (h0 : Co f f' c0) (h1 : Co g g' c1) (h2 : Co h h' c2) (h3 : Co i i' c3) (h4 : Co j j' c4) (h5 : Co k k' c5) (h6 : Co l l' c6) : Co (eT7 f g h i j k l) (eT7 f' g' h' i' j' k' l') (fun p => (c0 p.1, c1 p.2.1, c2 p.2.2.1, c3 p.2.2.2.1, c4 p.2.2.2.2.1, c5 p.2.2.2.2.2.1, c6 p.2.2.2.2.2.2)) := fun p => by unfold eT7; simp only [show f p.1 = f' (c0 p.1) from h0 _, show g p.2.1 = g' (c1 p.2.1) from h1 _, show h p.2.2.1 = h' (c2 p.2.2.1) from h2 _, show i p.2.2.2.1 = i' (c3 p.2.2.2.1) from h3 _, show j p.2.2.2.2.1 = j' (c4 p.2.2.2.2.1) from h4 _, show k p.2.2.2.2.2.1 = k' (c5 p.2.2.2.2.2.1) from h5 _, show l p.2.2.2.2.2.2 = l' (c6 p.2.2.2.2.2.2) from h6 _]
theorem co_S7 {α β γ δ ε ζ η : Type} {f : α → D} {g : β → D} {h : γ → D} {i : δ → D} {j : ε → D} {k : ζ → D} {l : η → D} {α' β' γ' δ' ε' ζ' η' : Type} {f' : α' → D} {g' : β' → D} {h' : γ' → D} {i' : δ' → D} {j' : ε' → D} {k' : ζ' → D} {l' : η' → D} {c0 : α → α'} {c1 : β → β'} {c2 : γ → γ'} {c3 : δ → δ'} {c4 : ε → ε'} {c5 : ζ → ζ'} {c6 : η → η'} (h0 : Co f f' c0) (h1 : Co g g' c1) (h2 : Co h h' c2) (h3 : Co i i' c3) (h4 : Co j j' c4) (h5 : Co k k' c5) (h6 : Co l l' c6) : Co (eS7 f g h i j k l) (eS7 f' g' h' i' j' k' l') (fun p => (c0 p.1, c1 p.2.1, c2 p.2.2.1, c3 p.2.2.2.1, c4 p.2.2.2.2.1, c5 p.2.2.2.2.2.1, c6 p.2.2.2.2.2.2)) := fun p => by unfold eS7; simp only [show f p.1 = f' (c0 p.1) from h0 _, show g p.2.1 = g' (c1 p.2.1) from h1 _, show h p.2.2.1 = h' (c2 p.2.2.1) from h2 _, show i p.2.2.2.1 = i' (c3 p.2.2.2.1) from h3 _, show j p.2.2.2.2.1 = j' (c4 p.2.2.2.2.1) from h4 _, show k p.2.2.2.2.2.1 = k' (c5 p.2.2.2.2.2.1) from h5 _, show l p.2.2.2.2.2.2 = l' (c6 p.2.2.2.2.2.2) from h6 _]
theorem co_TW7 {α β γ δ ε ζ η : Type} {f : α → D} {g : β → D} {h : γ → D} {i : δ → D} {j : ε → D} {k : ζ → D} {l : η → D} {α' β' γ' δ' ε' ζ' η' : Type} {f' : α' → D} {g' : β' → D} {h' : γ' → D} {i' : δ' → D} {j' : ε' → D} {k' : ζ' → D} {l' : η' → D} {c0 : α → α'} {c1 : β → β'} {c2 : γ → γ'} {c3 : δ → δ'} {c4 : ε → ε'} {c5 : ζ → ζ'} {c6 : η → η'} (h0 : Co f f' c0) (h1 : Co g g' c1) (h2 : Co h h' c2) (h3 : Co i i' c3) (h4 : Co j j' c4) (h5 : Co k k' c5) (h6 : Co l l' c6) : Co (eT7 f g h i j k l) (eW7 f' g' h' i' j' k' l') (fun p => (true, c0 p.1, c1 p.2.1, c2 p.2.2.1, c3 p.2.2.2.1, c4 p.2.2.2.2.1, c5 p.2.2.2.2.2.1, c6 p.2.2.2.2.2.2)) := fun p => by unfold eT7 eW7; simp only [show f p.1 = f' (c0 p.1) from h0 _, show g p.2.1 = g' (c1 p.2.1) from h1 _, show h p.2.2.1 = h' (c2 p.2.2.1) from h2 _, show i p.2.2.2.1 = i' (c3 p.2.2.2.1) from h3 _, show j p.2.2.2.2.1 = j' (c4 p.2.2.2.2.1) from h4 _, show k p.2.2.2.2.2.1 = k' (c5 p.2.2.2.2.2.1) from h5 _, show l p.2.2.2.2.2.2 = l' (c6 p.2.2.2.2.2.2) from h6 _]; rfl
theorem co_SW7 {α β γ δ ε ζ η : Type} {f : α → D} {g : β → D} {h : γ → D} {i : δ → D} {j : ε → D} {k : ζ → D} {l : η → D} {α' β' γ' δ' ε' ζ' η' : Type} {f' : α' → D} {g' : β' → D} {h' : γ' → D} {i' : δ' → D} {j' : ε' → D} {k' : ζ' → D} {l' : η' → D} {c0 : α → α'} {c1 : β → β'} {c2 : γ → γ'} {c3 : δ → δ'} {c4 : ε → ε'} {c5 : ζ → ζ'} {c6 : η → η'} (h0 : Co f f' c0) (h1 : Co g g' c1) (h2 : Co h h' c2) (h3 : Co i i' c3) (h4 : Co j j' c4) (h5 : Co k k' c5) (h6 : Co l l' c6) : Co (eS7 f g h i j k l) (eW7 f' g' h' i' j' k' l') (fun p => (false, c0 p.1, c1 p.2.1, c2 p.2.2.1, c3 p.2.2.2.1, c4 p.2.2.2.2.1, c5 p.2.2.2.2.2.1, c6 p.2.2.2.2.2.2)) := fun p => by unfold eS7 eW7; simp only [show f p.1 = f' (c0 p.1) from h0 _, show g p.2.1 = g' (c1 p.2.1) from h1 _, show h p.2.2.1 = h' (c2 p.2.2.1) from h2 _, show i p.2.2.2.1 = i' (c3 p.2.2.2.1) from h3 _, show j p.2.2.2.2.1 = j' (c4 p.2.2.2.2.1) from h4 _, show k p.2.2.2.2.2.1 = k' (c5 p.2.2.2.2.2.1) from h5 _, show l p.2.2.2.2.2.2 = l' (c6 p.2.2.2.2.2.2) from h6 _]; rfl
theorem co_TU7 {α β γ δ ε ζ η : Type} {f : α → D} {g : β → D} {h : γ → D} {i : δ → D} {j : ε → D} {k : ζ → D} {l : η → D} {υ : Type} {u : υ → D} {c0 : α → υ} {c1 : β → υ} {c2 : γ → υ} {c3 : δ → υ} {c4 : ε → υ} {c5 : ζ → υ} {c6 : η → υ} (h0 : Co f u c0) (h1 : Co g u c1) (h2 : Co h u c2) (h3 : Co i u c3) (h4 : Co j u c4) (h5 : Co k u c5) (h6 : Co l u c6) : Co (eT7 f g h i j k l) (eU u) (fun p => [c0 p.1, c1 p.2.1, c2 p.2.2.1, c3 p.2.2.2.1, c4 p.2.2.2.2.1, c5 p.2.2.2.2.2.1, c6 p.2.2.2.2.2.2]) := fun p => by unfold eT7 eU; simp only [List.map_cons, List.map_nil, show f p.1 = u (c0 p.1) from h0 _, show g p.2.1 = u (c1 p.2.1) from h1 _, show h p.2.2.1 = u (c2 p.2.2.1) from h2 _, show i p.2.2.2.1 = u (c3 p.2.2.2.1) from h3 _, show j p.2.2.2.2.1 = u (c4 p.2.2.2.2.1) from h4 _, show k p.2.2.2.2.2.1 = u (c5 p.2.2.2.2.2.1) from h5 _, show l p.2.2.2.2.2.2 = u (c6 p.2.2.2.2.2.2) from h6 _]
theorem co_SL7 {α β γ δ ε ζ η : Type} {f : α → D} {g : β → D} {h : γ → D} {i : δ → D} {j : ε → D} {k : ζ → D} {l : η → D} {υ : Type} {u : υ → D} {c0 : α → υ} {c1 : β → υ} {c2 : γ → υ} {c3 : δ → υ} {c4 : ε → υ} {c5 : ζ → υ} {c6 : η → υ} (h0 : Co f u c0) (h1 : Co g u c1) (h2 : Co h u c2) (h3 : Co i u c3) (h4 : Co j u c4) (h5 : Co k u c5) (h6 : Co l u c6) : Co (eS7 f g h i j k l) (eL u) (fun p => [c0 p.1, c1 p.2.1, c2 p.2.2.1, c3 p.2.2.2.1, c4 p.2.2.2.2.1, c5 p.2.2.2.2.2.1, c6 p.2.2.2.2.2.2]) := fun p => by unfold eS7 eL; simp only [List.map_cons, List.map_nil, show f p.1 = u (c0 p.1) from h0 _, show g p.2.1 = u (c1 p.2.1) from h1 _, show h p.2.2.1 = u (c2 p.2.2.1) from h2 _, show i p.2.2.2.1 = u (c3 p.2.2.2.1) from h3 _, show j p.2.2.2.2.1 = u (c4 p.2.2.2.2.1) from h4 _, show k p.2.2.2.2.2.1 = u (c5 p.2.2.2.2.2.1) from h5 _, show l p.2.2.2.2.2.2 = u (c6 p.2.2.2.2.2.2) from h6 _]
theorem co_TQ7 {α β γ δ ε ζ η : Type} {f : α → D} {g : β → D} {h : γ → D} {i : δ → D} {j : ε → D} {k : ζ → D} {l : η → D} {υ : Type} {u : υ → D} {c0 : α → υ} {c1 : β → υ} {c2 : γ → υ} {c3 : δ → υ} {c4 : ε → υ} {c5 : ζ → υ} {c6 : η → υ} (h0 : Co f u c0) (h1 : Co g u c1) (h2 : Co h u c2) (h3 : Co i u c3) (h4 : Co j u c4) (h5 : Co k u c5) (h6 : Co l u c6) : Co (eT7 f g h i j k l) (eQ u) (fun p => (true, [c0 p.1, c1 p.2.1, c2 p.2.2.1, c3 p.2.2.2.1, c4 p.2.2.2.2.1, c5 p.2.2.2.2.2.1, c6 p.2.2.2.2.2.2])) := fun p => by unfold eT7 eQ; simp only [List.map_cons, List.map_nil, show f p.1 = u (c0 p.1) from h0 _, show g p.2.1 = u (c1 p.2.1) from h1 _, show h p.2.2.1 = u (c2 p.2.2.1) from h2 _, show i p.2.2.2.1 = u (c3 p.2.2.2.1) from h3 _, show j p.2.2.2.2.1 = u (c4 p.2.2.2.2.1) from h4 _, show k p.2.2.2.2.2.1 = u (c5 p.2.2.2.2.2.1) from h5 _, show l p.2.2.2.2.2.2 = u (c6 p.2.2.2.2.2.2) from h6 _]; rfl
theorem co_SQ7 {α β γ δ ε ζ η : Type} {f : α → D} {g : β → D} {h : γ → D} {i : δ → D} {j : ε → D} {k : ζ → D} {l : η → D} {υ : Type} {u : υ → D} {c0 : α → υ} {c1 : β → υ} {c2 : γ → υ} {c3 : δ → υ} {c4 : ε → υ} {c5 : ζ → υ} {c6 : η → υ} (h0 : Co f u c0) (h1 : Co g u c1) (h2 : Co h u c2) (h3 : Co i u c3) (h4 : Co j u c4) (h5 : Co k u c5) (h6 : Co l u c6) : Co (eS7 f g h i j k l) (eQ u) (fun p => (false, [c0 p.1, c1 p.2.1, c2 p.2.2.1, c3 p.2.2.2.1, c4 p.2.2.2.2.1, c5 p.2.2.2.2.2.1, c6 p.2.2.2.2.2.2])) := fun p => by unfold eS7 eQ; simp only [List.map_cons, List.map_nil, show f p.1 = u (c0 p.1) from h0 _, show g p.2.1 = u (c1 p.2.1) from h1 _, show h p.2.2.1 = u (c2 p.2.2.1) from h2 _, show i p.2.2.2.1 = u (c3 p.2.2.2.1) from h3 _, show j p.2.2.2.2.1 = u (c4 p.2.2.2.2.1) from h4 _, show k p.2.2.2.2.2.1 = u (c5 p.2.2.2.2.2.1) from h5 _, show l p.2.2.2.2.2.2 = u (c6 p.2.2.2.2.2.2) from h6 _]; rfl
section
variable {env : En} {p q : PX} {r : R} {α β : Type} {f : α → D} {g : α → T} {xs : List α} {x : α} {T' ty : String} {b : Bool}
/-- isinstance of a value that may be None -/
theorem ev_isiO {o : Option α} (h : Ev p env r) (l : RdR env r (eO f o)) (e : ∀ a, tyD (f a) = some ty) (hn : isiT T' "NoneType" = false) : Ev (pIsi T' p) env (vB (!o.isNone && isiT T' ty)) := fun k hk => h _ (by
  obtain ⟨t, e1, e2⟩ := l
  cases o with
  | none => exact ⟨t, "NoneType", e1, (by rw [e2]; rfl), by rw [hn]; exact hk⟩
  | some a => exact ⟨t, ty, e1, (by rw [e2]; exact e a), hk⟩)
/-- .. that is a list or a tuple -/
theorem ev_isiQ {ds : List D} (h : Ev p env r) (l : RdR env r (.node (sqS b) ds)) : Ev (pIsi T' p) env (vB (if b = true then isiT T' "tuple" else isiT T' "list")) := fun k hk => h _ (by
  obtain ⟨t, e1, e2⟩ := l
  cases b with
  | true => exact ⟨t, "tuple", e1, (by rw [e2]; rfl), hk⟩
  | false => exact ⟨t, "list", e1, (by rw [e2]; rfl), hk⟩)
/-- what is read, seen at another type -/
theorem rd_co {d d' : D} (h : RdR env r d) (e : d = d') : RdR env r d' := e ▸ h
end
end PL

/-! The typed layer, part 6: dicts, sorted, extend, calls that change an argument. -/
namespace PL
open PySem L2 PySem.W PyProof.Rows
section
variable {κ α : Type}
/-! ### dicts as lists of pairs -/
def dget [DecidableEq κ] (m : List (κ × α)) (k : κ) : Option α := (m.find? fun p => decide (p.1 = k)).map (·.2)
def dhas [DecidableEq κ] (m : List (κ × α)) (k : κ) : Bool := m.any fun p => decide (p.1 = k)
def dput [DecidableEq κ] (m : List (κ × α)) (k : κ) (v : α) : List (κ × α) := match m.findIdx? fun p => decide (p.1 = k) with
  | some j => m.set j (k, v)
  | none => m ++ [(k, v)]
theorem find_ix {p : (κ × α) → Bool} {m : List (κ × α)} {x : κ × α} (h : m.find? p = some x) : ∃ j, m.findIdx? p = some j ∧ m[j]? = some x := by
  induction m with
  | nil => cases h
  | cons a m ih =>
    rw [List.find?_cons] at h
    rw [List.findIdx?_cons]
    cases hp : p a with
    | true =>
      rw [hp] at h
      cases h
      exact ⟨0, rfl, rfl⟩
    | false =>
      rw [hp] at h
      obtain ⟨j, a1, a2⟩ := ih h
      exact ⟨j + 1, by simp [a1], by simpa using a2⟩
theorem findIdx_get {p : (κ × α) → Bool} : ∀ {m : List (κ × α)} {j : Nat}, m.findIdx? p = some j → ∃ x, m[j]? = some x ∧ p x = true
  | [], j, h => by cases h
  | a :: m, j, h => by
    rw [List.findIdx?_cons] at h
    cases hp : p a with
    | true =>
      rw [hp] at h
      cases h
      exact ⟨a, rfl, hp⟩
    | false =>
      rw [hp] at h
      simp at h
      obtain ⟨j', e, rfl⟩ := h
      obtain ⟨x, a1, a2⟩ := findIdx_get e
      exact ⟨x, by simpa using a1, a2⟩
def kI : Int → Key := Sum.inl
def kS : Str → Key := Sum.inr
end

/-! ### DK -/
structure KPDK {κ : Type} (e : κ → D) (kf : κ → Key) : Prop where
  key : ∀ k, (e k).key = some (kf k)
  inj : ∀ a b, kf a = kf b → a = b
def eDK {κ α : Type} (kf : κ → Key) (f : α → D) (m : List (κ × α)) : D := .node (.dK (m.map fun p => kf p.1)) (m.map fun p => f p.2)
def oDK {κ α : Type} (kf : κ → Key) (g : α → T) (m : List (κ × α)) : T := .node (.dK (m.map fun p => kf p.1)) (m.map fun p => g p.2)
theorem er_oDK {κ α : Type} {kf : κ → Key} {g : α → T} {f : α → D} (h : Er g f) : Er (oDK kf g) (eDK kf f) := fun m => by
  unfold oDK eDK
  rw [er_node, List.map_map]
  exact congrArg _ (List.map_congr_left fun x _ => h _)
theorem nn_DK {κ α : Type} {kf : κ → Key} {f : α → D} : NN (eDK kf f) := fun _ z => nomatch z
section
variable {κ α β : Type} [DecidableEq κ] {e : κ → D} {kf : κ → Key} {m : List (κ × α)} {k : κ} {x y : α} {f : α → D} {g : α → T} {env : En} {p q : PX} {r r' : R} {s : Nat} {π : List Nat} {pin : Option V} {pd : PEnds} {t : T}
theorem ixDK_eq (kp : KPDK e kf) : ixK (m.map fun p => kf p.1) (kf k) = m.findIdx? fun p => decide (p.1 = k) := by
  unfold ixK
  rw [List.findIdx?_map]
  have : ((fun x => decide (x = kf k)) ∘ fun p : κ × α => kf p.1) = fun p => decide (p.1 = k) := by
    funext p
    show decide (kf p.1 = kf k) = decide (p.1 = k)
    by_cases h : p.1 = k
    · rw [h]; simp
    · rw [decide_eq_false h, decide_eq_false fun z => h (kp.inj _ _ z)]
  rw [this]
theorem hasDK_eq (kp : KPDK e kf) : memK (m.map fun p => kf p.1) (kf k) = dhas m k := by
  unfold memK dhas
  rw [List.any_map]
  congr 1
  funext p
  show decide (kf p.1 = kf k) = decide (p.1 = k)
  by_cases h : p.1 = k
  · rw [h]; simp
  · rw [decide_eq_false h, decide_eq_false fun z => h (kp.inj _ _ z)]
theorem getDK_ix (kp : KPDK e kf) (h : dget m k = some x) : ∃ j kk, ixK (m.map fun p => kf p.1) (kf k) = some j ∧ m[j]? = some (kk, x) := by
  obtain ⟨pr, h1, rfl⟩ := Option.map_eq_some_iff.mp h
  obtain ⟨j, h2, h3⟩ := find_ix h1
  exact ⟨j, pr.1, (ixDK_eq kp).trans h2, h3⟩
theorem subDK {ts : List T} {c : T} {j : Nat} {kk : Nat → T → Prop} (kp : KPDK e kf) (ht : t.kids = some (.dK (m.map fun p => kf p.1), ts)) (h1 : ixK (m.map fun p => kf p.1) (kf k) = some j) (h2 : ts[j]? = some c) (hk : kk j c) : subT t (e k) kk := by
  unfold subT
  rw [ht]
  exact ⟨kf k, j, c, kp.key k, h1, h2, hk⟩
theorem ev_ixDK (kp : KPDK e kf) (h : Ev p env (vS (eDK kf f m))) (h' : Ev q env (vS (e k))) (hg : dget m k = some x) : Ev (pIx p q) env (vS (f x)) := by
  obtain ⟨j, kk, h1, h2⟩ := getDK_ix kp hg
  refine fun z hz => h _ (h' _ ⟨_, _, rfl, rfl, subDK (e := e) (kf := kf) (m := m) (k := k) (j := j) (c := .s (f x)) kp rfl h1 (by rw [List.getElem?_map, List.getElem?_map, h2]; rfl) ?_⟩)
  exact hz
theorem ev_ixBDK (kp : KPDK e kf) (h : Ev p env (.bo s π)) (hl : look env s π = some (oDK kf (sh f) m)) (h' : Ev q env (vS (e k))) (hg : dget m k = some x) : Ev (pIx p q) env (vS (f x)) := by
  obtain ⟨j, kk, h1, h2⟩ := getDK_ix kp hg
  refine fun z hz => h _ (h' _ ⟨_, _, hl, rfl, subDK (e := e) (kf := kf) (m := m) (k := k) (j := j) (c := .s (f x)) kp rfl h1 (by rw [List.getElem?_map, h2]; rfl) ?_⟩)
  exact hz
theorem ev_ixBBDK {q1 : Shape} {k1 : List T} (kp : KPDK e kf) (h : Ev p env (.bo s π)) (hl : look env s π = some (oDK kf g m)) (h' : Ev q env (vS (e k))) (hg : dget m k = some x) (hn : g x = .node q1 k1) : ∃ j, m.findIdx? (fun p => decide (p.1 = k)) = some j ∧ (∃ kk, m[j]? = some (kk, x)) ∧ Ev (pIx p q) env (.bo s (π ++ [j])) ∧ look env s (π ++ [j]) = some (g x) := by
  obtain ⟨j, kk, h1, h2⟩ := getDK_ix kp hg
  have eg : (m.map fun p => g p.2)[j]? = some (g x) := by rw [List.getElem?_map, h2]; rfl
  refine ⟨j, (ixDK_eq kp).symm.trans h1, ⟨kk, h2⟩, fun z hz => h _ (h' _ ⟨_, _, hl, rfl, subDK (e := e) (kf := kf) (m := m) (k := k) (j := j) (c := g x) kp rfl h1 eg ?_⟩), look_snoc hl rfl eg⟩
  rw [hn]
  exact hz
theorem gInDK_of {neg : Bool} {ds : List D} (kp : KPDK e kf) (kk : D → Prop) (hk : kk (.bl (neg' neg (dhas m k)))) : gIn neg (e k) (.node (.dK (m.map fun p => kf p.1)) ds) kk := by
  have h1 := kp.key k
  rw [← hasDK_eq kp] at hk
  generalize e k = d at h1
  cases d <;> exact ⟨_, h1, hk⟩
theorem ev_inDK (kp : KPDK e kf) (h : Ev p env (vS (e k))) (h' : Ev q env r') (x2 : RdR env r' (eDK kf f m)) : Ev (PL.p2 (gIn false) p q) env (vB (dhas m k)) := ev_two h h' rd_s x2 (gInDK_of kp (neg := false))
theorem et_inDK (kp : KPDK e kf) (h : Ev p env (vS (e k))) (h' : Ev q env r') (x2 : RdR env r' (eDK kf f m)) : Et (p2T (gIn false) p q) env (dhas m k) := et_two h h' rd_s x2 (gInDK_of kp (neg := false))
theorem ev_ninDK (kp : KPDK e kf) (h : Ev p env (vS (e k))) (h' : Ev q env r') (x2 : RdR env r' (eDK kf f m)) : Ev (PL.p2 (gIn true) p q) env (vB (!dhas m k)) := ev_two h h' rd_s x2 (gInDK_of kp (neg := true))
theorem et_ninDK (kp : KPDK e kf) (h : Ev p env (vS (e k))) (h' : Ev q env r') (x2 : RdR env r' (eDK kf f m)) : Et (p2T (gIn true) p q) env (!dhas m k) := et_two h h' rd_s x2 (gInDK_of kp (neg := true))
theorem ev_lenDK (h : Ev p env r) (l : RdR env r (eDK kf f m)) : Ev (pCB gLen (pCons p pNil)) env (vI m.length) := ev_cb1 h l fun k hk => by
  show k (.int ((m.map fun p => kf p.1).length : Nat))
  rw [List.length_map]
  exact hk
theorem ev_newDK : Ev pDNewK env (.va (oDK kf g [])) := fun k hk => hk
theorem putDK {kk : T → Prop} (kp : KPDK e kf) (hk : kk (oDK kf g (dput m k y))) : kk (putD Shape.dK (m.map fun p => kf p.1) (m.map fun p => g p.2) (kf k) (g y)) := by
  have e1 := ixDK_eq (m := m) (k := k) kp
  unfold putD
  unfold dput at hk
  rw [e1]
  cases h : m.findIdx? fun p => decide (p.1 = k) with
  | none =>
    rw [h] at hk
    have : oDK kf g (m ++ [(k, y)]) = .node (.dK ((m.map fun p => kf p.1) ++ [kf k])) ((m.map fun p => g p.2) ++ [g y]) := by
      unfold oDK
      rw [List.map_append, List.map_append]
      rfl
    rw [this] at hk
    exact hk
  | some j =>
    rw [h] at hk
    obtain ⟨x, h1, h2⟩ := findIdx_get h
    have h2 : x.1 = k := of_decide_eq_true h2
    have : oDK kf g (m.set j (k, y)) = .node (.dK (m.map fun p => kf p.1)) ((m.map fun p => g p.2).set j (g y)) := by
      unfold oDK
      rw [List.map_set, List.map_set]
      congr 2
      have : (m.map fun p => kf p.1)[j]? = some (kf k) := by rw [List.getElem?_map, h1, ← h2]; rfl
      exact set_self this
    rw [this] at hk
    exact hk
/-- name[k] = e -/
theorem s_setDK {m' : List (κ × α)} (kp : KPDK e kf) (hc : env[s]? = some (.own pin (oDK kf g m))) (h : Ev p env (.va t)) (et : t = g y) (hi : Ev q env (vS (e k))) (hl : m.length < 16777216) (ez : dput m k y = m') (h' : pd.nx (env.set s (.own pin (oDK kf g m')))) : pSetI (pLift p) (pVar s) q pd env := by
  subst ez
  refine h _ ⟨t, rfl, ev_b hc _ (hi _ ⟨s, [], pin, oDK kf g m, oDK kf g m, .s (e k), rfl, hc, (by unfold T.at; rfl), rfl, kf k, kp.key k, (by rw [List.length_map]; exact hl), ?_⟩)⟩
  subst et
  have : ∀ u, pd.nx (env.set s (.own pin u)) → pd.nx (env.set s (.own pin ((oDK kf g m).putAt [] u))) := fun u z => by
    unfold T.putAt
    exact z
  exact putDK (kk := fun u => pd.nx (env.set s (.own pin ((oDK kf g m).putAt [] u)))) kp (this _ h')
/-- name[k].append(e), the values lists of its own -/
theorem s_appDK {g2 : β → T} {m : List (κ × List β)} {l : List β} {y : β} {m' : List (κ × List β)} (kp : KPDK e kf) (hc : env[s]? = some (.own pin (oDK kf (oL g2) m))) (hi : Ev q env (vS (e k))) (e1 : dget m k = some l) (hl : l.length < 16777216) (h : Ev p env (.va t)) (et : t = g2 y) (ez : dput m k (l ++ [y]) = m') (h' : pd.nx (env.set s (.own pin (oDK kf (oL g2) m')))) : pApp (pIx (pVar s) q) p pd env := by
  subst ez
  obtain ⟨j, ej, ⟨kk, ex⟩, hv, hk⟩ := ev_ixBBDK (g := oL g2) kp (ev_b hc) (look_own hc) hi e1 rfl
  refine hv _ ⟨s, [] ++ [j], pin, oDK kf (oL g2) m, l.map g2, rfl, hc, ?_, (by rw [List.length_map]; exact hl), h _ ⟨t, rfl, ?_⟩⟩
  · unfold look at hk
    rw [hc] at hk
    exact hk
  · subst et
    have eg : (m.map fun p => oL g2 p.2)[j]? = some (oL g2 l) := by rw [List.getElem?_map, ex]; rfl
    show pd.nx (env.set s (.own pin ((T.node (.dK (m.map fun p => kf p.1)) (m.map fun p => oL g2 p.2)).putAt [j] _)))
    rw [putAt_one eg]
    have e3 : oDK kf (oL g2) (dput m k (l ++ [y])) = .node (.dK (m.map fun p => kf p.1)) ((m.map fun p => oL g2 p.2).set j (.node .lst (l.map g2 ++ [g2 y]))) := by
      have := putDK (kk := fun u => u = .node (.dK (m.map fun p => kf p.1)) ((m.map fun p => oL g2 p.2).set j (oL g2 (l ++ [y]))) → oDK kf (oL g2) (dput m k (l ++ [y])) = u) (g := oL g2) (m := m) (k := k) (y := l ++ [y]) kp (fun _ => rfl)
      have e2 : putD Shape.dK (m.map fun p => kf p.1) (m.map fun p => oL g2 p.2) (kf k) (oL g2 (l ++ [y])) = .node (.dK (m.map fun p => kf p.1)) ((m.map fun p => oL g2 p.2).set j (oL g2 (l ++ [y]))) := by
        unfold putD
        rw [ixDK_eq kp, ej]
      have e4 : oL g2 (l ++ [y]) = .node .lst (l.map g2 ++ [g2 y]) := by unfold oL; rw [List.map_append]; rfl
      rw [← e4, this e2, e2]
    rw [e3] at h'
    exact h'
end
/-! ### DT -/
structure KPDT {κ : Type} (e : κ → D) (kf : κ → List Key) : Prop where
  key : ∀ k, (e k).keyT = some (kf k)
  inj : ∀ a b, kf a = kf b → a = b
def eDT {κ α : Type} (kf : κ → List Key) (f : α → D) (m : List (κ × α)) : D := .node (.dT (m.map fun p => kf p.1)) (m.map fun p => f p.2)
def oDT {κ α : Type} (kf : κ → List Key) (g : α → T) (m : List (κ × α)) : T := .node (.dT (m.map fun p => kf p.1)) (m.map fun p => g p.2)
theorem er_oDT {κ α : Type} {kf : κ → List Key} {g : α → T} {f : α → D} (h : Er g f) : Er (oDT kf g) (eDT kf f) := fun m => by
  unfold oDT eDT
  rw [er_node, List.map_map]
  exact congrArg _ (List.map_congr_left fun x _ => h _)
theorem nn_DT {κ α : Type} {kf : κ → List Key} {f : α → D} : NN (eDT kf f) := fun _ z => nomatch z
section
variable {κ α β : Type} [DecidableEq κ] {e : κ → D} {kf : κ → List Key} {m : List (κ × α)} {k : κ} {x y : α} {f : α → D} {g : α → T} {env : En} {p q : PX} {r r' : R} {s : Nat} {π : List Nat} {pin : Option V} {pd : PEnds} {t : T}
theorem ixDT_eq (kp : KPDT e kf) : ixK (m.map fun p => kf p.1) (kf k) = m.findIdx? fun p => decide (p.1 = k) := by
  unfold ixK
  rw [List.findIdx?_map]
  have : ((fun x => decide (x = kf k)) ∘ fun p : κ × α => kf p.1) = fun p => decide (p.1 = k) := by
    funext p
    show decide (kf p.1 = kf k) = decide (p.1 = k)
    by_cases h : p.1 = k
    · rw [h]; simp
    · rw [decide_eq_false h, decide_eq_false fun z => h (kp.inj _ _ z)]
  rw [this]
theorem hasDT_eq (kp : KPDT e kf) : memK (m.map fun p => kf p.1) (kf k) = dhas m k := by
  unfold memK dhas
  rw [List.any_map]
  congr 1
  funext p
  show decide (kf p.1 = kf k) = decide (p.1 = k)
  by_cases h : p.1 = k
  · rw [h]; simp
  · rw [decide_eq_false h, decide_eq_false fun z => h (kp.inj _ _ z)]
theorem getDT_ix (kp : KPDT e kf) (h : dget m k = some x) : ∃ j kk, ixK (m.map fun p => kf p.1) (kf k) = some j ∧ m[j]? = some (kk, x) := by
  obtain ⟨pr, h1, rfl⟩ := Option.map_eq_some_iff.mp h
  obtain ⟨j, h2, h3⟩ := find_ix h1
  exact ⟨j, pr.1, (ixDT_eq kp).trans h2, h3⟩
theorem subDT {ts : List T} {c : T} {j : Nat} {kk : Nat → T → Prop} (kp : KPDT e kf) (ht : t.kids = some (.dT (m.map fun p => kf p.1), ts)) (h1 : ixK (m.map fun p => kf p.1) (kf k) = some j) (h2 : ts[j]? = some c) (hk : kk j c) : subT t (e k) kk := by
  unfold subT
  rw [ht]
  exact ⟨kf k, j, c, kp.key k, h1, h2, hk⟩
theorem ev_ixDT (kp : KPDT e kf) (h : Ev p env (vS (eDT kf f m))) (h' : Ev q env (vS (e k))) (hg : dget m k = some x) : Ev (pIx p q) env (vS (f x)) := by
  obtain ⟨j, kk, h1, h2⟩ := getDT_ix kp hg
  refine fun z hz => h _ (h' _ ⟨_, _, rfl, rfl, subDT (e := e) (kf := kf) (m := m) (k := k) (j := j) (c := .s (f x)) kp rfl h1 (by rw [List.getElem?_map, List.getElem?_map, h2]; rfl) ?_⟩)
  exact hz
theorem ev_ixBDT (kp : KPDT e kf) (h : Ev p env (.bo s π)) (hl : look env s π = some (oDT kf (sh f) m)) (h' : Ev q env (vS (e k))) (hg : dget m k = some x) : Ev (pIx p q) env (vS (f x)) := by
  obtain ⟨j, kk, h1, h2⟩ := getDT_ix kp hg
  refine fun z hz => h _ (h' _ ⟨_, _, hl, rfl, subDT (e := e) (kf := kf) (m := m) (k := k) (j := j) (c := .s (f x)) kp rfl h1 (by rw [List.getElem?_map, h2]; rfl) ?_⟩)
  exact hz
theorem ev_ixBBDT {q1 : Shape} {k1 : List T} (kp : KPDT e kf) (h : Ev p env (.bo s π)) (hl : look env s π = some (oDT kf g m)) (h' : Ev q env (vS (e k))) (hg : dget m k = some x) (hn : g x = .node q1 k1) : ∃ j, m.findIdx? (fun p => decide (p.1 = k)) = some j ∧ (∃ kk, m[j]? = some (kk, x)) ∧ Ev (pIx p q) env (.bo s (π ++ [j])) ∧ look env s (π ++ [j]) = some (g x) := by
  obtain ⟨j, kk, h1, h2⟩ := getDT_ix kp hg
  have eg : (m.map fun p => g p.2)[j]? = some (g x) := by rw [List.getElem?_map, h2]; rfl
  refine ⟨j, (ixDT_eq kp).symm.trans h1, ⟨kk, h2⟩, fun z hz => h _ (h' _ ⟨_, _, hl, rfl, subDT (e := e) (kf := kf) (m := m) (k := k) (j := j) (c := g x) kp rfl h1 eg ?_⟩), look_snoc hl rfl eg⟩
  rw [hn]
  exact hz
theorem gInDT_of {neg : Bool} {ds : List D} (kp : KPDT e kf) (kk : D → Prop) (hk : kk (.bl (neg' neg (dhas m k)))) : gIn neg (e k) (.node (.dT (m.map fun p => kf p.1)) ds) kk := by
  have h1 := kp.key k
  rw [← hasDT_eq kp] at hk
  generalize e k = d at h1
  cases d <;> exact ⟨_, h1, hk⟩
theorem ev_inDT (kp : KPDT e kf) (h : Ev p env (vS (e k))) (h' : Ev q env r') (x2 : RdR env r' (eDT kf f m)) : Ev (PL.p2 (gIn false) p q) env (vB (dhas m k)) := ev_two h h' rd_s x2 (gInDT_of kp (neg := false))
theorem et_inDT (kp : KPDT e kf) (h : Ev p env (vS (e k))) (h' : Ev q env r') (x2 : RdR env r' (eDT kf f m)) : Et (p2T (gIn false) p q) env (dhas m k) := et_two h h' rd_s x2 (gInDT_of kp (neg := false))
theorem ev_ninDT (kp : KPDT e kf) (h : Ev p env (vS (e k))) (h' : Ev q env r') (x2 : RdR env r' (eDT kf f m)) : Ev (PL.p2 (gIn true) p q) env (vB (!dhas m k)) := ev_two h h' rd_s x2 (gInDT_of kp (neg := true))
theorem et_ninDT (kp : KPDT e kf) (h : Ev p env (vS (e k))) (h' : Ev q env r') (x2 : RdR env r' (eDT kf f m)) : Et (p2T (gIn true) p q) env (!dhas m k) := et_two h h' rd_s x2 (gInDT_of kp (neg := true))
theorem ev_lenDT (h : Ev p env r) (l : RdR env r (eDT kf f m)) : Ev (pCB gLen (pCons p pNil)) env (vI m.length) := ev_cb1 h l fun k hk => by
  show k (.int ((m.map fun p => kf p.1).length : Nat))
  rw [List.length_map]
  exact hk
theorem ev_newDT : Ev pDNewT env (.va (oDT kf g [])) := fun k hk => hk
theorem putDT {kk : T → Prop} (kp : KPDT e kf) (hk : kk (oDT kf g (dput m k y))) : kk (putD Shape.dT (m.map fun p => kf p.1) (m.map fun p => g p.2) (kf k) (g y)) := by
  have e1 := ixDT_eq (m := m) (k := k) kp
  unfold putD
  unfold dput at hk
  rw [e1]
  cases h : m.findIdx? fun p => decide (p.1 = k) with
  | none =>
    rw [h] at hk
    have : oDT kf g (m ++ [(k, y)]) = .node (.dT ((m.map fun p => kf p.1) ++ [kf k])) ((m.map fun p => g p.2) ++ [g y]) := by
      unfold oDT
      rw [List.map_append, List.map_append]
      rfl
    rw [this] at hk
    exact hk
  | some j =>
    rw [h] at hk
    obtain ⟨x, h1, h2⟩ := findIdx_get h
    have h2 : x.1 = k := of_decide_eq_true h2
    have : oDT kf g (m.set j (k, y)) = .node (.dT (m.map fun p => kf p.1)) ((m.map fun p => g p.2).set j (g y)) := by
      unfold oDT
      rw [List.map_set, List.map_set]
      congr 2
      have : (m.map fun p => kf p.1)[j]? = some (kf k) := by rw [List.getElem?_map, h1, ← h2]; rfl
      exact set_self this
    rw [this] at hk
    exact hk
/-- name[k] = e -/
theorem s_setDT {m' : List (κ × α)} (kp : KPDT e kf) (hc : env[s]? = some (.own pin (oDT kf g m))) (h : Ev p env (.va t)) (et : t = g y) (hi : Ev q env (vS (e k))) (hl : m.length < 16777216) (ez : dput m k y = m') (h' : pd.nx (env.set s (.own pin (oDT kf g m')))) : pSetI (pLift p) (pVar s) q pd env := by
  subst ez
  refine h _ ⟨t, rfl, ev_b hc _ (hi _ ⟨s, [], pin, oDT kf g m, oDT kf g m, .s (e k), rfl, hc, (by unfold T.at; rfl), rfl, kf k, kp.key k, (by rw [List.length_map]; exact hl), ?_⟩)⟩
  subst et
  have : ∀ u, pd.nx (env.set s (.own pin u)) → pd.nx (env.set s (.own pin ((oDT kf g m).putAt [] u))) := fun u z => by
    unfold T.putAt
    exact z
  exact putDT (kk := fun u => pd.nx (env.set s (.own pin ((oDT kf g m).putAt [] u)))) kp (this _ h')
/-- name[k].append(e), the values lists of its own -/
theorem s_appDT {g2 : β → T} {m : List (κ × List β)} {l : List β} {y : β} {m' : List (κ × List β)} (kp : KPDT e kf) (hc : env[s]? = some (.own pin (oDT kf (oL g2) m))) (hi : Ev q env (vS (e k))) (e1 : dget m k = some l) (hl : l.length < 16777216) (h : Ev p env (.va t)) (et : t = g2 y) (ez : dput m k (l ++ [y]) = m') (h' : pd.nx (env.set s (.own pin (oDT kf (oL g2) m')))) : pApp (pIx (pVar s) q) p pd env := by
  subst ez
  obtain ⟨j, ej, ⟨kk, ex⟩, hv, hk⟩ := ev_ixBBDT (g := oL g2) kp (ev_b hc) (look_own hc) hi e1 rfl
  refine hv _ ⟨s, [] ++ [j], pin, oDT kf (oL g2) m, l.map g2, rfl, hc, ?_, (by rw [List.length_map]; exact hl), h _ ⟨t, rfl, ?_⟩⟩
  · unfold look at hk
    rw [hc] at hk
    exact hk
  · subst et
    have eg : (m.map fun p => oL g2 p.2)[j]? = some (oL g2 l) := by rw [List.getElem?_map, ex]; rfl
    show pd.nx (env.set s (.own pin ((T.node (.dT (m.map fun p => kf p.1)) (m.map fun p => oL g2 p.2)).putAt [j] _)))
    rw [putAt_one eg]
    have e3 : oDT kf (oL g2) (dput m k (l ++ [y])) = .node (.dT (m.map fun p => kf p.1)) ((m.map fun p => oL g2 p.2).set j (.node .lst (l.map g2 ++ [g2 y]))) := by
      have := putDT (kk := fun u => u = .node (.dT (m.map fun p => kf p.1)) ((m.map fun p => oL g2 p.2).set j (oL g2 (l ++ [y]))) → oDT kf (oL g2) (dput m k (l ++ [y])) = u) (g := oL g2) (m := m) (k := k) (y := l ++ [y]) kp (fun _ => rfl)
      have e2 : putD Shape.dT (m.map fun p => kf p.1) (m.map fun p => oL g2 p.2) (kf k) (oL g2 (l ++ [y])) = .node (.dT (m.map fun p => kf p.1)) ((m.map fun p => oL g2 p.2).set j (oL g2 (l ++ [y]))) := by
        unfold putD
        rw [ixDT_eq kp, ej]
      have e4 : oL g2 (l ++ [y]) = .node .lst (l.map g2 ++ [g2 y]) := by unfold oL; rw [List.map_append]; rfl
      rw [← e4, this e2, e2]
    rw [e3] at h'
    exact h'
end
theorem kp_int : KPDK D.int kI := ⟨fun _ => rfl, fun a b h => Sum.inl.inj h⟩
theorem kp_str : KPDK D.str kS := ⟨fun _ => rfl, fun a b h => Sum.inr.inj h⟩
def kT1 {α : Type} (k0 : α → Key) (p : α) : List Key := [k0 p]
theorem kp_T1 {α : Type} {e0 : α → D} {k0 : α → Key} (h0 : KPDK e0 k0) : KPDT (eT1 e0) (kT1 k0) := ⟨fun p => by show keysD _ = _; simp only [keysD, h0.key _]; rfl, fun a b h => by
  unfold kT1 at h; simp only [List.cons.injEq] at h; exact h0.inj _ _ h.1⟩
def kT2 {α β : Type} (k0 : α → Key) (k1 : β → Key) (p : α × β) : List Key := [k0 p.1, k1 p.2]
theorem kp_T2 {α β : Type} {e0 : α → D} {k0 : α → Key} {e1 : β → D} {k1 : β → Key} (h0 : KPDK e0 k0) (h1 : KPDK e1 k1) : KPDT (eT2 e0 e1) (kT2 k0 k1) := ⟨fun p => by show keysD _ = _; simp only [keysD, h0.key _, h1.key _]; rfl, fun a b h => by
  unfold kT2 at h; simp only [List.cons.injEq, and_true] at h; obtain ⟨q0, q1⟩ := h; exact Prod.ext (h0.inj _ _ q0) (h1.inj _ _ q1)⟩
def kT3 {α β γ : Type} (k0 : α → Key) (k1 : β → Key) (k2 : γ → Key) (p : α × β × γ) : List Key := [k0 p.1, k1 p.2.1, k2 p.2.2]
theorem kp_T3 {α β γ : Type} {e0 : α → D} {k0 : α → Key} {e1 : β → D} {k1 : β → Key} {e2 : γ → D} {k2 : γ → Key} (h0 : KPDK e0 k0) (h1 : KPDK e1 k1) (h2 : KPDK e2 k2) : KPDT (eT3 e0 e1 e2) (kT3 k0 k1 k2) := ⟨fun p => by show keysD _ = _; simp only [keysD, h0.key _, h1.key _, h2.key _]; rfl, fun a b h => by
  unfold kT3 at h; simp only [List.cons.injEq, and_true] at h; obtain ⟨q0, q1, q2⟩ := h; exact Prod.ext (h0.inj _ _ q0) (Prod.ext (h1.inj _ _ q1) (h2.inj _ _ q2))⟩
def kT4 {α β γ δ : Type} (k0 : α → Key) (k1 : β → Key) (k2 : γ → Key) (k3 : δ → Key) (p : α × β × γ × δ) : List Key := [k0 p.1, k1 p.2.1, k2 p.2.2.1, k3 p.2.2.2]
theorem kp_T4 {α β γ δ : Type} {e0 : α → D} {k0 : α → Key} {e1 : β → D} {k1 : β → Key} {e2 : γ → D} {k2 : γ → Key} {e3 : δ → D} {k3 : δ → Key} (h0 : KPDK e0 k0) (h1 : KPDK e1 k1) (h2 : KPDK e2 k2) (h3 : KPDK e3 k3) : KPDT (eT4 e0 e1 e2 e3) (kT4 k0 k1 k2 k3) := ⟨fun p => by show keysD _ = _; simp only [keysD, h0.key _, h1.key _, h2.key _, h3.key _]; rfl, fun a b h => by
  unfold kT4 at h; simp only [List.cons.injEq, and_true] at h; obtain ⟨q0, q1, q2, q3⟩ := h; exact Prod.ext (h0.inj _ _ q0) (Prod.ext (h1.inj _ _ q1) (Prod.ext (h2.inj _ _ q2) (h3.inj _ _ q3)))⟩
def kT5 {α β γ δ ε : Type} (k0 : α → Key) (k1 : β → Key) (k2 : γ → Key) (k3 : δ → Key) (k4 : ε → Key) (p : α × β × γ × δ × ε) : List Key := [k0 p.1, k1 p.2.1, k2 p.2.2.1, k3 p.2.2.2.1, k4 p.2.2.2.2]
theorem kp_T5 {α β γ δ ε : Type} {e0 : α → D} {k0 : α → Key} {e1 : β → D} {k1 : β → Key} {e2 : γ → D} {k2 : γ → Key} {e3 : δ → D} {k3 : δ → Key} {e4 : ε → D} {k4 : ε → Key} (h0 : KPDK e0 k0) (h1 : KPDK e1 k1) (h2 : KPDK e2 k2) (h3 : KPDK e3 k3) (h4 : KPDK e4 k4) : KPDT (eT5 e0 e1 e2 e3 e4) (kT5 k0 k1 k2 k3 k4) := ⟨fun p => by show keysD _ = _; simp only [keysD, h0.key _, h1.key _, h2.key _, h3.key _, h4.key _]; rfl, fun a b h => by
  unfold kT5 at h; simp only [List.cons.injEq, and_true] at h; obtain ⟨q0, q1, q2, q3, q4⟩ := h; exact Prod.ext (h0.inj _ _ q0) (Prod.ext (h1.inj _ _ q1) (Prod.ext (h2.inj _ _ q2) (Prod.ext (h3.inj _ _ q3) (h4.inj _ _ q4))))⟩

/-! ### sorted -/
/-- the order of what is encoded -/
structure Ord {α : Type} (f : α → D) (lt : α → α → Bool) : Prop where
  lt : ∀ a b, dataLt (f a).py (f b).py = lt a b
  al : ∀ a b, alike (f a).py (f b).py = true
theorem ord_int : Ord D.int (fun a b => decide (a < b)) := ⟨fun a b => dataLt_int a b, fun a b => by show alike (.int a) (.int b) = true; simp [alike]⟩
theorem ord_bl : Ord D.bl (fun a b => !a && b) := ⟨fun a b => by cases a <;> cases b <;> decide, fun a b => by show alike (.bool a) (.bool b) = true; simp [alike]⟩
def ordL {α : Type} [DecidableEq α] (lt : α → α → Bool) : List α → List α → Bool
  | [], [] => false
  | [], _ :: _ => true
  | _ :: _, [] => false
  | a :: as, b :: bs => if a = b then ordL lt as bs else lt a b
theorem lex_cons {x y : PyData} (h : alike x y = true) {ex lx : Bool} (e1 : PyData.eqv x y = ex) (e2 : dataLt x y = lx) (xs ys : List PyData) {r : Bool} (e3 : PyProof.Rows.lexLt itemOrd (keyToksAll xs) (keyToksAll ys) = r) : PyProof.Rows.lexLt itemOrd (keyToksAll (x :: xs)) (keyToksAll (y :: ys)) = if ex = true then r else lx := by
  rw [dataLt_cons h, e1, e2, e3]
theorem lex_nil : PyProof.Rows.lexLt itemOrd (keyToksAll []) (keyToksAll []) = false := by decide +kernel
theorem ordL_eq {α : Type} [DecidableEq α] {f : α → D} {lt : α → α → Bool} (o : Ord f lt) (dq : DeqOk f) : ∀ xs ys : List α, PyProof.Rows.lexLt itemOrd (keyToksAll (pys (xs.map f))) (keyToksAll (pys (ys.map f))) = ordL lt xs ys
  | [], [] => lex_nil
  | [], y :: ys => by
    show PyProof.Rows.lexLt itemOrd (keyToksAll []) (keyToksAll ((f y).py :: pys (ys.map f))) = true
    rw [keyToksAll, keyToksAll]
    rw [lex_atom (by decide)]
    decide +kernel
  | x :: xs, [] => by
    show PyProof.Rows.lexLt itemOrd (keyToksAll ((f x).py :: pys (xs.map f))) (keyToksAll []) = false
    rw [keyToksAll, keyToksAll]
    rw [lex_atom (by decide)]
    decide +kernel
  | x :: xs, y :: ys => by
    refine (lex_cons (o.al x y) (dq x y) (o.lt x y) _ _ (ordL_eq o dq xs ys)).trans ?_
    show _ = if x = y then _ else _
    by_cases h : x = y <;> simp [h]
theorem alL {α : Type} {f : α → D} {lt : α → α → Bool} (o : Ord f lt) : ∀ xs ys : List α, alikeAll (pys (xs.map f)) (pys (ys.map f)) = true
  | [], _ => by simp [pys, alikeAll]
  | x :: xs, [] => by simp [pys, alikeAll]
  | x :: xs, y :: ys => by
    show alikeAll ((f x).py :: pys (xs.map f)) ((f y).py :: pys (ys.map f)) = true
    rw [alikeAll, o.al x y, alL o xs ys]
    rfl
theorem ord_L {α : Type} [DecidableEq α] {f : α → D} {lt : α → α → Bool} (o : Ord f lt) (dq : DeqOk f) : Ord (eL f) (ordL lt) := ⟨fun a b => by
  show PyProof.Rows.lexLt itemOrd (keyToks (.list (pys (a.map f)))) (keyToks (.list (pys (b.map f)))) = _
  rw [keyToks, keyToks]
  exact ordL_eq o dq a b, fun a b => by
  show alike (.list (pys (a.map f))) (.list (pys (b.map f))) = true
  rw [alike]
  exact alL o a b⟩
theorem ord_U {α : Type} [DecidableEq α] {f : α → D} {lt : α → α → Bool} (o : Ord f lt) (dq : DeqOk f) : Ord (eU f) (ordL lt) := ⟨fun a b => by
  show PyProof.Rows.lexLt itemOrd (keyToks (.tuple (pys (a.map f)))) (keyToks (.tuple (pys (b.map f)))) = _
  rw [keyToks, keyToks]
  exact ordL_eq o dq a b, fun a b => by
  show alike (.tuple (pys (a.map f))) (.tuple (pys (b.map f))) = true
  rw [alike]
  exact alL o a b⟩
def ordT1 {α : Type}  (l0 : α → α → Bool) (a b : α) : Bool := l0 a b
theorem ord_T1 {α : Type} [DecidableEq α] {f : α → D} {l0 : α → α → Bool} (h0 : Ord f l0) (d0 : DeqOk f) (irr : ∀ a, l0 a a = false) : Ord (eT1 f) (ordT1 l0) := ⟨fun a b => by
  show PyProof.Rows.lexLt itemOrd (keyToks (.tuple _)) (keyToks (.tuple _)) = _
  rw [keyToks, keyToks]
  refine Eq.trans (lex_cons (h0.al _ _) (d0 _ _) (h0.lt _ _) _ _ lex_nil) ?_
  unfold ordT1
  simp only [decide_eq_true_eq]
  by_cases q0 : a = b <;> simp [q0, irr], fun a b => by
  show alike (.tuple _) (.tuple _) = true
  rw [alike]
  simp only [pys, alikeAll, h0.al _ _]
  rfl⟩
theorem ord_S1 {α : Type} [DecidableEq α] {f : α → D} {l0 : α → α → Bool} (h0 : Ord f l0) (d0 : DeqOk f) (irr : ∀ a, l0 a a = false) : Ord (eS1 f) (ordT1 l0) := ⟨fun a b => by
  show PyProof.Rows.lexLt itemOrd (keyToks (.list _)) (keyToks (.list _)) = _
  rw [keyToks, keyToks]
  refine Eq.trans (lex_cons (h0.al _ _) (d0 _ _) (h0.lt _ _) _ _ lex_nil) ?_
  unfold ordT1
  simp only [decide_eq_true_eq]
  by_cases q0 : a = b <;> simp [q0, irr], fun a b => by
  show alike (.list _) (.list _) = true
  rw [alike]
  simp only [pys, alikeAll, h0.al _ _]
  rfl⟩
def ordT2 {α β : Type} [DecidableEq α] (l0 : α → α → Bool) (l1 : β → β → Bool) (a b : α × β) : Bool := (if a.1 = b.1 then l1 a.2 b.2 else l0 a.1 b.1)
theorem ord_T2 {α β : Type} [DecidableEq α] [DecidableEq β] {f : α → D} {l0 : α → α → Bool} {g : β → D} {l1 : β → β → Bool} (h0 : Ord f l0) (h1 : Ord g l1) (d0 : DeqOk f) (d1 : DeqOk g) (irr : ∀ a, l1 a a = false) : Ord (eT2 f g) (ordT2 l0 l1) := ⟨fun a b => by
  show PyProof.Rows.lexLt itemOrd (keyToks (.tuple _)) (keyToks (.tuple _)) = _
  rw [keyToks, keyToks]
  refine Eq.trans (lex_cons (h0.al _ _) (d0 _ _) (h0.lt _ _) _ _ (lex_cons (h1.al _ _) (d1 _ _) (h1.lt _ _) _ _ lex_nil)) ?_
  unfold ordT2
  simp only [decide_eq_true_eq]
  by_cases q0 : a.1 = b.1 <;> simp only [q0, if_true, if_false, irr] <;> by_cases q1 : a.2 = b.2 <;> simp only [q1, if_true, if_false, irr], fun a b => by
  show alike (.tuple _) (.tuple _) = true
  rw [alike]
  simp only [pys, alikeAll, h0.al _ _, h1.al _ _]
  rfl⟩
theorem ord_S2 {α β : Type} [DecidableEq α] [DecidableEq β] {f : α → D} {l0 : α → α → Bool} {g : β → D} {l1 : β → β → Bool} (h0 : Ord f l0) (h1 : Ord g l1) (d0 : DeqOk f) (d1 : DeqOk g) (irr : ∀ a, l1 a a = false) : Ord (eS2 f g) (ordT2 l0 l1) := ⟨fun a b => by
  show PyProof.Rows.lexLt itemOrd (keyToks (.list _)) (keyToks (.list _)) = _
  rw [keyToks, keyToks]
  refine Eq.trans (lex_cons (h0.al _ _) (d0 _ _) (h0.lt _ _) _ _ (lex_cons (h1.al _ _) (d1 _ _) (h1.lt _ _) _ _ lex_nil)) ?_
  unfold ordT2
  simp only [decide_eq_true_eq]
  by_cases q0 : a.1 = b.1 <;> simp only [q0, if_true, if_false, irr] <;> by_cases q1 : a.2 = b.2 <;> simp only [q1, if_true, if_false, irr], fun a b => by
  show alike (.list _) (.list _) = true
  rw [alike]
  simp only [pys, alikeAll, h0.al _ _, h1.al _ _]
  rfl⟩
def ordT3 {α β γ : Type} [DecidableEq α] [DecidableEq β] (l0 : α → α → Bool) (l1 : β → β → Bool) (l2 : γ → γ → Bool) (a b : α × β × γ) : Bool := (if a.1 = b.1 then (if a.2.1 = b.2.1 then l2 a.2.2 b.2.2 else l1 a.2.1 b.2.1) else l0 a.1 b.1)
theorem ord_T3 {α β γ : Type} [DecidableEq α] [DecidableEq β] [DecidableEq γ] {f : α → D} {l0 : α → α → Bool} {g : β → D} {l1 : β → β → Bool} {h : γ → D} {l2 : γ → γ → Bool} (h0 : Ord f l0) (h1 : Ord g l1) (h2 : Ord h l2) (d0 : DeqOk f) (d1 : DeqOk g) (d2 : DeqOk h) (irr : ∀ a, l2 a a = false) : Ord (eT3 f g h) (ordT3 l0 l1 l2) := ⟨fun a b => by
  show PyProof.Rows.lexLt itemOrd (keyToks (.tuple _)) (keyToks (.tuple _)) = _
  rw [keyToks, keyToks]
  refine Eq.trans (lex_cons (h0.al _ _) (d0 _ _) (h0.lt _ _) _ _ (lex_cons (h1.al _ _) (d1 _ _) (h1.lt _ _) _ _ (lex_cons (h2.al _ _) (d2 _ _) (h2.lt _ _) _ _ lex_nil))) ?_
  unfold ordT3
  simp only [decide_eq_true_eq]
  by_cases q0 : a.1 = b.1 <;> simp only [q0, if_true, if_false, irr] <;> by_cases q1 : a.2.1 = b.2.1 <;> simp only [q1, if_true, if_false, irr] <;> by_cases q2 : a.2.2 = b.2.2 <;> simp only [q2, if_true, if_false, irr], fun a b => by
  show alike (.tuple _) (.tuple _) = true
  rw [alike]
  simp only [pys, alikeAll, h0.al _ _, h1.al _ _, h2.al _ _]
  rfl⟩
theorem ord_S3 {α β γ : Type} [DecidableEq α] [DecidableEq β] [DecidableEq γ] {f : α → D} {l0 : α → α → Bool} {g : β → D} {l1 : β → β → Bool} {h : γ → D} {l2 : γ → γ → Bool} (h0 : Ord f l0) (h1 : Ord g l1) (h2 : Ord h l2) (d0 : DeqOk f) (d1 : DeqOk g) (d2 : DeqOk h) (irr : ∀ a, l2 a a = false) : Ord (eS3 f g h) (ordT3 l0 l1 l2) := ⟨fun a b => by
  show PyProof.Rows.lexLt itemOrd (keyToks (.list _)) (keyToks (.list _)) = _
  rw [keyToks, keyToks]
  refine Eq.trans (lex_cons (h0.al _ _) (d0 _ _) (h0.lt _ _) _ _ (lex_cons (h1.al _ _) (d1 _ _) (h1.lt _ _) _ _ (lex_cons (h2.al _ _) (d2 _ _) (h2.lt _ _) _ _ lex_nil))) ?_
  unfold ordT3
  simp only [decide_eq_true_eq]
  by_cases q0 : a.1 = b.1 <;> simp only [q0, if_true, if_false, irr] <;> by_cases q1 : a.2.1 = b.2.1 <;> simp only [q1, if_true, if_false, irr] <;> by_cases q2 : a.2.2 = b.2.2 <;> simp only [q2, if_true, if_false, irr], fun a b => by
  show alike (.list _) (.list _) = true
  rw [alike]
  simp only [pys, alikeAll, h0.al _ _, h1.al _ _, h2.al _ _]
  rfl⟩
def ordT4 {α β γ δ : Type} [DecidableEq α] [DecidableEq β] [DecidableEq γ] (l0 : α → α → Bool) (l1 : β → β → Bool) (l2 : γ → γ → Bool) (l3 : δ → δ → Bool) (a b : α × β × γ × δ) : Bool := (if a.1 = b.1 then (if a.2.1 = b.2.1 then (if a.2.2.1 = b.2.2.1 then l3 a.2.2.2 b.2.2.2 else l2 a.2.2.1 b.2.2.1) else l1 a.2.1 b.2.1) else l0 a.1 b.1)
theorem ord_T4 {α β γ δ : Type} [DecidableEq α] [DecidableEq β] [DecidableEq γ] [DecidableEq δ] {f : α → D} {l0 : α → α → Bool} {g : β → D} {l1 : β → β → Bool} {h : γ → D} {l2 : γ → γ → Bool} {i : δ → D} {l3 : δ → δ → Bool} (h0 : Ord f l0) (h1 : Ord g l1) (h2 : Ord h l2) (h3 : Ord i l3) (d0 : DeqOk f) (d1 : DeqOk g) (d2 : DeqOk h) (d3 : DeqOk i) (irr : ∀ a, l3 a a = false) : Ord (eT4 f g h i) (ordT4 l0 l1 l2 l3) := ⟨fun a b => by
  show PyProof.Rows.lexLt itemOrd (keyToks (.tuple _)) (keyToks (.tuple _)) = _
  rw [keyToks, keyToks]
  refine Eq.trans (lex_cons (h0.al _ _) (d0 _ _) (h0.lt _ _) _ _ (lex_cons (h1.al _ _) (d1 _ _) (h1.lt _ _) _ _ (lex_cons (h2.al _ _) (d2 _ _) (h2.lt _ _) _ _ (lex_cons (h3.al _ _) (d3 _ _) (h3.lt _ _) _ _ lex_nil)))) ?_
  unfold ordT4
  simp only [decide_eq_true_eq]
  by_cases q0 : a.1 = b.1 <;> simp only [q0, if_true, if_false, irr] <;> by_cases q1 : a.2.1 = b.2.1 <;> simp only [q1, if_true, if_false, irr] <;> by_cases q2 : a.2.2.1 = b.2.2.1 <;> simp only [q2, if_true, if_false, irr] <;> by_cases q3 : a.2.2.2 = b.2.2.2 <;> simp only [q3, if_true, if_false, irr], fun a b => by
  show alike (.tuple _) (.tuple _) = true
  rw [alike]
  simp only [pys, alikeAll, h0.al _ _, h1.al _ _, h2.al _ _, h3.al _ _]
  rfl⟩
theorem ord_S4 {α β γ δ : Type} [DecidableEq α] [DecidableEq β] [DecidableEq γ] [DecidableEq δ] {f : α → D} {l0 : α → α → Bool} {g : β → D} {l1 : β → β → Bool} {h : γ → D} {l2 : γ → γ → Bool} {i : δ → D} {l3 : δ → δ → Bool} (h0 : Ord f l0) (h1 : Ord g l1) (h2 : Ord h l2) (h3 : Ord i l3) (d0 : DeqOk f) (d1 : DeqOk g) (d2 : DeqOk h) (d3 : DeqOk i) (irr : ∀ a, l3 a a = false) : Ord (eS4 f g h i) (ordT4 l0 l1 l2 l3) := ⟨fun a b => by
  show PyProof.Rows.lexLt itemOrd (keyToks (.list _)) (keyToks (.list _)) = _
  rw [keyToks, keyToks]
  refine Eq.trans (lex_cons (h0.al _ _) (d0 _ _) (h0.lt _ _) _ _ (lex_cons (h1.al _ _) (d1 _ _) (h1.lt _ _) _ _ (lex_cons (h2.al _ _) (d2 _ _) (h2.lt _ _) _ _ (lex_cons (h3.al _ _) (d3 _ _) (h3.lt _ _) _ _ lex_nil)))) ?_
  unfold ordT4
  simp only [decide_eq_true_eq]
  by_cases q0 : a.1 = b.1 <;> simp only [q0, if_true, if_false, irr] <;> by_cases q1 : a.2.1 = b.2.1 <;> simp only [q1, if_true, if_false, irr] <;> by_cases q2 : a.2.2.1 = b.2.2.1 <;> simp only [q2, if_true, if_false, irr] <;> by_cases q3 : a.2.2.2 = b.2.2.2 <;> simp only [q3, if_true, if_false, irr], fun a b => by
  show alike (.list _) (.list _) = true
  rw [alike]
  simp only [pys, alikeAll, h0.al _ _, h1.al _ _, h2.al _ _, h3.al _ _]
  rfl⟩
def ordT5 {α β γ δ ε : Type} [DecidableEq α] [DecidableEq β] [DecidableEq γ] [DecidableEq δ] (l0 : α → α → Bool) (l1 : β → β → Bool) (l2 : γ → γ → Bool) (l3 : δ → δ → Bool) (l4 : ε → ε → Bool) (a b : α × β × γ × δ × ε) : Bool := (if a.1 = b.1 then (if a.2.1 = b.2.1 then (if a.2.2.1 = b.2.2.1 then (if a.2.2.2.1 = b.2.2.2.1 then l4 a.2.2.2.2 b.2.2.2.2 else l3 a.2.2.2.1 b.2.2.2.1) else l2 a.2.2.1 b.2.2.1) else l1 a.2.1 b.2.1) else l0 a.1 b.1)
theorem ord_T5 {α β γ δ ε : Type} [DecidableEq α] [DecidableEq β] [DecidableEq γ] [DecidableEq δ] [DecidableEq ε] {f : α → D} {l0 : α → α → Bool} {g : β → D} {l1 : β → β → Bool} {h : γ → D} {l2 : γ → γ → Bool} {i : δ → D} {l3 : δ → δ → Bool} {j : ε → D} {l4 : ε → ε → Bool} (h0 : Ord f l0) (h1 : Ord g l1) (h2 : Ord h l2) (h3 : Ord i l3) (h4 : Ord j l4) (d0 : DeqOk f) (d1 : DeqOk g) (d2 : DeqOk h) (d3 : DeqOk i) (d4 : DeqOk j) (irr : ∀ a, l4 a a = false) : Ord (eT5 f g h i j) (ordT5 l0 l1 l2 l3 l4) := ⟨fun a b => by
  show PyProof.Rows.lexLt itemOrd (keyToks (.tuple _)) (keyToks (.tuple _)) = _
  rw [keyToks, keyToks]
  refine Eq.trans (lex_cons (h0.al _ _) (d0 _ _) (h0.lt _ _) _ _ (lex_cons (h1.al _ _) (d1 _ _) (h1.lt _ _) _ _ (lex_cons (h2.al _ _) (d2 _ _) (h2.lt _ _) _ _ (lex_cons (h3.al _ _) (d3 _ _) (h3.lt _ _) _ _ (lex_cons (h4.al _ _) (d4 _ _) (h4.lt _ _) _ _ lex_nil))))) ?_
  unfold ordT5
  simp only [decide_eq_true_eq]
  by_cases q0 : a.1 = b.1 <;> simp only [q0, if_true, if_false, irr] <;> by_cases q1 : a.2.1 = b.2.1 <;> simp only [q1, if_true, if_false, irr] <;> by_cases q2 : a.2.2.1 = b.2.2.1 <;> simp only [q2, if_true, if_false, irr] <;> by_cases q3 : a.2.2.2.1 = b.2.2.2.1 <;> simp only [q3, if_true, if_false, irr] <;> by_cases q4 : a.2.2.2.2 = b.2.2.2.2 <;> simp only [q4, if_true, if_false, irr], fun a b => by
  show alike (.tuple _) (.tuple _) = true
  rw [alike]
  simp only [pys, alikeAll, h0.al _ _, h1.al _ _, h2.al _ _, h3.al _ _, h4.al _ _]
  rfl⟩
theorem ord_S5 {α β γ δ ε : Type} [DecidableEq α] [DecidableEq β] [DecidableEq γ] [DecidableEq δ] [DecidableEq ε] {f : α → D} {l0 : α → α → Bool} {g : β → D} {l1 : β → β → Bool} {h : γ → D} {l2 : γ → γ → Bool} {i : δ → D} {l3 : δ → δ → Bool} {j : ε → D} {l4 : ε → ε → Bool} (h0 : Ord f l0) (h1 : Ord g l1) (h2 : Ord h l2) (h3 : Ord i l3) (h4 : Ord j l4) (d0 : DeqOk f) (d1 : DeqOk g) (d2 : DeqOk h) (d3 : DeqOk i) (d4 : DeqOk j) (irr : ∀ a, l4 a a = false) : Ord (eS5 f g h i j) (ordT5 l0 l1 l2 l3 l4) := ⟨fun a b => by
  show PyProof.Rows.lexLt itemOrd (keyToks (.list _)) (keyToks (.list _)) = _
  rw [keyToks, keyToks]
  refine Eq.trans (lex_cons (h0.al _ _) (d0 _ _) (h0.lt _ _) _ _ (lex_cons (h1.al _ _) (d1 _ _) (h1.lt _ _) _ _ (lex_cons (h2.al _ _) (d2 _ _) (h2.lt _ _) _ _ (lex_cons (h3.al _ _) (d3 _ _) (h3.lt _ _) _ _ (lex_cons (h4.al _ _) (d4 _ _) (h4.lt _ _) _ _ lex_nil))))) ?_
  unfold ordT5
  simp only [decide_eq_true_eq]
  by_cases q0 : a.1 = b.1 <;> simp only [q0, if_true, if_false, irr] <;> by_cases q1 : a.2.1 = b.2.1 <;> simp only [q1, if_true, if_false, irr] <;> by_cases q2 : a.2.2.1 = b.2.2.1 <;> simp only [q2, if_true, if_false, irr] <;> by_cases q3 : a.2.2.2.1 = b.2.2.2.1 <;> simp only [q3, if_true, if_false, irr] <;> by_cases q4 : a.2.2.2.2 = b.2.2.2.2 <;> simp only [q4, if_true, if_false, irr], fun a b => by
  show alike (.list _) (.list _) = true
  rw [alike]
  simp only [pys, alikeAll, h0.al _ _, h1.al _ _, h2.al _ _, h3.al _ _, h4.al _ _]
  rfl⟩
theorem irr_int : ∀ a : Int, (fun a b : Int => decide (a < b)) a a = false := fun a => by simp
theorem irr_bl : ∀ a : Bool, (fun a b : Bool => !a && b) a a = false := fun a => by cases a <;> rfl
theorem irr_L {α : Type} [DecidableEq α] {lt : α → α → Bool} (h : ∀ a, lt a a = false) : ∀ xs : List α, ordL lt xs xs = false
  | [] => rfl
  | x :: xs => by
    show (if x = x then ordL lt xs xs else lt x x) = false
    rw [if_pos rfl]
    exact irr_L h xs
theorem irr_T1 {α : Type}  {l0 : α → α → Bool} (h : ∀ a, l0 a a = false) (a : α) : ordT1 l0 a a = false := by unfold ordT1; simp [h]
theorem irr_T2 {α β : Type} [DecidableEq α] {l0 : α → α → Bool} {l1 : β → β → Bool} (h : ∀ a, l1 a a = false) (a : α × β) : ordT2 l0 l1 a a = false := by unfold ordT2; simp [h]
theorem irr_T3 {α β γ : Type} [DecidableEq α] [DecidableEq β] {l0 : α → α → Bool} {l1 : β → β → Bool} {l2 : γ → γ → Bool} (h : ∀ a, l2 a a = false) (a : α × β × γ) : ordT3 l0 l1 l2 a a = false := by unfold ordT3; simp [h]
theorem irr_T4 {α β γ δ : Type} [DecidableEq α] [DecidableEq β] [DecidableEq γ] {l0 : α → α → Bool} {l1 : β → β → Bool} {l2 : γ → γ → Bool} {l3 : δ → δ → Bool} (h : ∀ a, l3 a a = false) (a : α × β × γ × δ) : ordT4 l0 l1 l2 l3 a a = false := by unfold ordT4; simp [h]
theorem irr_T5 {α β γ δ ε : Type} [DecidableEq α] [DecidableEq β] [DecidableEq γ] [DecidableEq δ] {l0 : α → α → Bool} {l1 : β → β → Bool} {l2 : γ → γ → Bool} {l3 : δ → δ → Bool} {l4 : ε → ε → Bool} (h : ∀ a, l4 a a = false) (a : α × β × γ × δ × ε) : ordT5 l0 l1 l2 l3 l4 a a = false := by unfold ordT5; simp [h]

def sortBy {α : Type} (lt : α → α → Bool) (xs : List α) : List α := xs.mergeSort fun a b => !lt b a
structure CanOk {α : Type} (f : α → D) (lt : α → α → Bool) : Prop where
  o : Ord f lt
  so : ∀ xs : List α, Sortable ((xs.map f).map D.py)
  sp : ShpOk 64 f
theorem can_oth {α : Type} {f : α → D} {lt : α → α → Bool} (o : Ord f lt) (sp : ShpOk 64 f) (h : ∀ a, (f a).py ≠ .none ∧ ∀ xs, (f a).py ≠ .tuple xs) : CanOk f lt := ⟨o, fun xs => by
  rw [List.map_map]
  exact Sortable.others h, sp⟩
theorem can_tup {α : Type} {f : α → D} {lt : α → α → Bool} (o : Ord f lt) (sp : ShpOk 64 f) (h : ∀ a, ∃ x r, (f a).py = .tuple (x :: r)) : CanOk f lt := ⟨o, fun xs => by
  rw [List.map_map]
  exact Sortable.tuples h, sp⟩
theorem ev_sortL {α : Type} {f : α → D} {lt : α → α → Bool} {xs : List α} {env : En} {p : PX} {r : R} {t : T} (c : CanOk f lt) (h : Ev p env r) (m : MvR env r t) (k : SqT' .lst f xs t) : Ev (pC1 gSortD p) env (.va (oL (sh f) (sortBy lt xs))) := fun z hz => h _ ⟨t, m, xs.map f, by rw [k, List.map_map]; rfl, ⟨fun d hd e he => by
  obtain ⟨a, _, rfl⟩ := List.mem_map.mp hd
  obtain ⟨b, _, rfl⟩ := List.mem_map.mp he
  exact c.o.al a b, c.so xs, fun d hd => by
  obtain ⟨a, _, rfl⟩ := List.mem_map.mp hd
  exact c.sp a⟩, by
  have e : (xs.map f).mergeSort leD = (sortBy lt xs).map f := (List.map_mergeSort (r := fun a b => !lt b a) (s := leD) (f := f) (fun a _ b _ => by
    show _ = leD (f a) (f b)
    unfold leD
    rw [dataLe_eq]
    show _ = !dataLt (f b).py (f a).py
    rw [c.o.lt])).symm
  rw [e, ← oL_sh]
  exact hz⟩
theorem ev_sortDI {α : Type} {f : α → D} {m : List (Int × α)} {env : En} {p : PX} {r : R} (h : Ev p env r) (l : RdR env r (eDK kI f m)) : Ev (pSortDI p) env (.va (oL (sh D.int) (sortI (m.map (·.1))))) := fun z hz => h _ (by
  obtain ⟨t, e1, e2⟩ := l
  refine ⟨t, _, _, m.map (·.1), e1, e2, ?_, fun ys h1 h2 => ?_⟩
  · have : (m.map fun p => kI p.1) = (m.map (·.1)).map Sum.inl := by rw [List.map_map]; rfl
    rw [this]
    exact keysI_map _
  · rw [sortI_uniq h1 h2]
    exact hz)
/-! ### extend -/
section
variable {α β : Type} {f : α → D} {g : α → T} {xs ys zs : List α} {env : En} {p q : PX} {r : R} {t : T} {s : Nat} {pin : Option V} {pd : PEnds} {i : Int}
theorem s_ext (hc : env[s]? = some (.own pin (oL (sh f) xs))) (h : Ev p env r) (m : MvR env r t) (k : SqT' .lst f ys t) (hl : xs.length + ys.length < 16777216) (ez : xs ++ ys = zs) (h' : pd.nx (env.set s (.own pin (oL (sh f) zs)))) : pExt (pVar s) p pd env := by
  subst ez
  refine ev_b hc _ ⟨s, [], pin, oL (sh f) xs, xs.map (sh f), rfl, hc, (by unfold T.at; rfl), h _ ⟨t, ys.map f, m, by rw [k, List.map_map]; rfl, (by rw [List.length_map, List.length_map]; exact hl), ?_⟩⟩
  unfold T.putAt
  have e : (T.node .lst (xs.map (sh f) ++ (ys.map f).map T.s)) = oL (sh f) (xs ++ ys) := by unfold oL; rw [List.map_append, List.map_map]; rfl
  rw [e]
  exact h'
theorem s_ext1 {xss zss : List (List α)} {l : List α} (hc : env[s]? = some (.own pin (oL (oL (sh f)) xss))) (hi : Ev q env (vI i)) (e1 : atI xss i = some l) (h : Ev p env r) (m : MvR env r t) (k : SqT' .lst f ys t) (hl : l.length + ys.length < 16777216) (ez : setAt xss i (l ++ ys) = zss) (h' : pd.nx (env.set s (.own pin (oL (oL (sh f)) zss)))) : pExt (pIx (pVar s) q) p pd env := by
  subst ez
  obtain ⟨j, ej, ex, hv, hk⟩ := ev_ixBB (g := oL (sh f)) (ev_b (ks := xss.map (oL (sh f))) (shp' := .lst) hc) (look_own hc) hi e1 rfl
  refine hv _ ⟨s, [] ++ [j], pin, oL (oL (sh f)) xss, l.map (sh f), rfl, hc, ?_, h _ ⟨t, ys.map f, m, by rw [k, List.map_map]; rfl, (by rw [List.length_map, List.length_map]; exact hl), ?_⟩⟩
  · unfold look at hk
    rw [hc] at hk
    exact hk
  · have eg : (xss.map (oL (sh f)))[j]? = some (oL (sh f) l) := by rw [List.getElem?_map, ex]; rfl
    show pd.nx (env.set s (.own pin ((T.node .lst (xss.map (oL (sh f)))).putAt [j] _)))
    rw [putAt_one eg]
    unfold setAt at h'
    rw [← ej] at h'
    have e3 : oL (oL (sh f)) (xss.set j (l ++ ys)) = .node .lst ((xss.map (oL (sh f))).set j (.node .lst (l.map (sh f) ++ (ys.map f).map T.s))) := by
      unfold oL
      rw [List.map_set, List.map_append, List.map_map]
      rfl
    rw [e3] at h'
    exact h'
theorem mv_bb (hl : look env s [] = some (oL (sh f) xs)) : MvR env (.bo s []) (oL (sh f) xs) := mv_b hl flat_oL
end
/-! ### calls that change an argument -/
structure FinM {ρ β : Type} (RT : ρ → T) (g : β → T) (k : Nat) (w : V) (pd : PEnds) (r : ρ × β) : Prop where
  rt : ∀ {t e r' y}, (r', y) = r → t = RT r' → e[k]? = some (.own (some w) (g y)) → pd.rt t e
  nx : ∀ {e r' y}, (r', y) = r → RT r' = .s .non → e[k]? = some (.own (some w) (g y)) → pd.nx e
section
variable {ρ β α : Type}
/-- the promise of a def that changes its k-th argument: the arguments as trees, what they are behind -/
def mkSpM (enc : α → List T) (fn : α → Option (ρ × β)) (RT : ρ → T) (out : α → β → List T) : Spc := ⟨α, fun ts a => ts = enc a ∧ (fn a).isSome = true, fun a t outs => ∃ r, fn a = some r ∧ t = RT r.1 ∧ outs = out a r.2⟩
def AM (env : En) (i : Nat) (t : T) (rs : List R) (ts : List T) (b : Bool) : Prop := argsM env i t rs = some (ts, b)
variable {env : En} {i k : Nat} {t u c : T} {rs : List R} {ts os : List T} {b : Bool} {d : D} {π : List Nat}
theorem am_nil : AM env i t [] [] false := rfl
theorem am_va (e : u.er = d) (h : AM env i t rs ts b) : AM env i t (.va u :: rs) (.s d :: ts) b := by
  unfold AM argsM
  rw [show argsM env i t rs = some (ts, b) from h, e]
theorem am_self (h : AM env i t rs ts false) : AM env i t (.bo i [] :: rs) (t :: ts) true := by
  unfold AM argsM
  rw [if_pos rfl, show argsM env i t rs = some (ts, false) from h]
theorem am_oth (n : (k == i) = false) (hl : look env k π = some u) (e : u.er = d) (h : AM env i t rs ts b) : AM env i t (.bo k π :: rs) (.s d :: ts) b := by
  unfold AM argsM
  rw [if_neg (by simpa using n), hl, show argsM env i t rs = some (ts, b) from h]
  show some (T.s u.er :: ts, b) = _
  rw [e]
def OA (i : Nat) (rs : List R) (os : List T) (c : T) : Prop := outAt i rs os = some c
theorem oa_va {o : T} (h : OA i rs os c) : OA i (.va u :: rs) (o :: os) c := h
theorem oa_self : OA i (.bo i π :: rs) (c :: os) c := if_pos rfl
theorem oa_oth {o : T} (n : (k == i) = false) (h : OA i rs os c) : OA i (.bo k π :: rs) (o :: os) c := (if_neg (by simpa using n)).trans h
theorem m_call {enc : α → List T} {fn : α → Option (ρ × β)} {RT : ρ → T} {out : α → β → List T} {g : β → T} {ps : PAs} {r : ρ} {y y' : β} {pin : Option V} {sh' : Shape} {ks : List T} (a : α) (h : Ea ps env rs) (hc : env[i]? = some (.own pin (g y))) (hn : g y = .node sh' ks) (am : AM env i (g y) rs (enc a) true) (hf : fn a = some (r, y')) (oa : OA i rs (out a y') (g y')) (im : othBo i rs = true → immT (RT r) = true ∧ immT (g y') = true) :
    EvM (pCallM (spS (mkSpM enc fn RT out)) i ps) env (RT r) (env.set i (.own pin (g y'))) := fun k hk => h _ ⟨pin, sh', ks, enc a, by rw [hc, hn], by rw [← hn]; exact am, a, ⟨rfl, by rw [hf]; rfl⟩, fun t outs ⟨r', e, et, eo⟩ => by
  rw [hf] at e
  cases e
  subst et eo
  exact ⟨g y', oa, im, hk⟩⟩
theorem m_ret {pm : PXM} {env' : En} {pd : PEnds} (h : EvM pm env t env') (h' : pd.rt t env') : pRet pm pd env := h _ h'
theorem m_asgT {pm : PXM} {env' e2 : En} {tgt : Tgt} {pd : PEnds} (h : EvM pm env (.s d) env') (hs : setT tgt d env' = some e2) (h' : pd.nx e2) : pAsgT tgt pm pd env := h _ ⟨d, e2, rfl, hs, h'⟩
theorem m_frz {pm : PXM} {env' : En} {cl : Cell} {k : Nat} {pd : PEnds} (h : EvM pm env t env') (e : t.er = d) (hc : env'[k]? = some cl) (hj : Jk cl) (h' : pd.nx (env'.set k (.own none (.s d)))) : pAsgF k pm pd env := h _ ⟨_, so_jk hc hj, by rw [e]; exact h'⟩
end
/-! walks over what such a call gives -/
section
variable {σ ρ α : Type} {env : En} {pm : PXM} {env' : En} {t : T} {xs : List α} {f : α → D} {tgt : Tgt} {body : PSt} {pd : PEnds}
theorem w_forM {b : σ → α → Option (Ctl σ ρ)} {c : Ctl σ ρ} (Φ : σ → En → Prop) (RP : ρ → T → En → Prop) (s0 : σ) (hi : EvM pm env t env') (et : itemsOf t.er = some (xs.map f)) (h : forC b xs s0 = some c) (h0 : Φ s0 env')
    (hb : ∀ x s e c' (pd' : PEnds), Φ s e → b s x = some c' → Fin Φ RP pd' c' → ∃ e2, setT tgt (f x) e = some e2 ∧ body pd' e2)
    (hr : ∀ r t e', c = .rt r → RP r t e' → pd.rt t e') (hn : ∀ s' e', c = .nx s' → Φ s' e' → pd.nx e') : pForM pm tgt body pd env := hi _ ⟨_, et, loop_C h0 h hb hn hr⟩
theorem w_forMO {b : σ → α → Option σ} {s1 : σ} (Φ : σ → En → Prop) (s0 : σ) (hi : EvM pm env t env') (et : itemsOf t.er = some (xs.map f)) (h : foldO b xs s0 = some s1) (h0 : Φ s0 env')
    (hb : ∀ x s e s' (pd' : PEnds), Φ s e → b s x = some s' → FinO Φ pd' s' → ∃ e2, setT tgt (f x) e = some e2 ∧ body pd' e2) (hn : ∀ e', Φ s1 e' → pd.nx e') : pForM pm tgt body pd env :=
  w_forM Φ (fun _ _ _ => False) s0 hi et (foldO_C h) h0 (fun x s e c' pd' h1 h2 h3 => by
    obtain ⟨s2, h4, h5⟩ := fin_O h2 h3
    exact hb x s e s2 pd' h1 h4 h5) (fun r _ _ _ _ => nomatch r) (fun s' e' h1 h2 => by cases h1; exact hn e' h2)
theorem outs_own {v : V} {vs : List V} {sh' : Shape} {ks : List T} {t0 : T} {ts us : List T} {env : En} (h : env[0]? = some (.own (some v) t0)) (h' : Outs vs ts env.tail us) : Outs (v :: vs) (.node sh' ks :: ts) env (t0 :: us) := by
  cases env with
  | nil => simp at h
  | cons c env =>
    simp at h
    subst h
    exact .own h'
theorem items_oL {g : α → T} (h : Er g f) : itemsOf (oL g xs).er = some (xs.map f) := by rw [er_oL h]; rfl
end
end PL

/-! a < b < c; the order of data; the least of data -/
namespace PL
open PySem L2 PyProof.Rows PySem.W
theorem onNx {σ ρ α : Type} {s : σ} {n : σ → Option α} {r : ρ → Option α} {z : α} (h : Ctl.on (.nx s) n r = some z) : n s = some z := h
/-! ### a op b op c -/
def pChn (f g : Int → Int → Bool) (pa pb pc : PX) : PX := fun env k => pa env fun ra => pb env fun rb => ∃ a b i j, ra.tr env = some a ∧ rb.tr env = some b ∧ a.er = .int i ∧ b.er = .int j ∧
  if f i j = true then pc env fun rc => ∃ c l, rc.tr env = some c ∧ c.er = .int l ∧ k (.va (.s (.bl (g j l)))) else k (.va (.s (.bl false)))
def pChnT (f g : Int → Int → Bool) (pa pb pc : PX) : PB := fun env k => pChn f g pa pb pc env fun r => ∃ b, r = .va (.s (.bl b)) ∧ k b
section
variable {X : Cx} {a b c : Expr} {pos : Pos} {pa pb pc : PX} {f g : Int → Int → Bool} {op op' : CmpOp} {r r' : R2}
theorem chn (sc : Sc2 X.K r (gCmp f)) (sc' : Sc2 X.K r' (gCmp g)) (ha : PD X a pa) (hb : PD X b pb) (hc : PD X c pc) (σ : L2.St) (H : Hp) (Q : VK) (h : tD X.K (pChn f g pa pb pc) σ H Q) : tChain r r' (tD X.K pa) (tD X.K pb) (tD X.K pc) σ H Q := by
  obtain ⟨S, B, env, sr, q⟩ := h
  refine ⟨S, B, env, sr, ha.mono env (fun ra q S1 B1 v1 H1 g1 r1 => ?_) q⟩
  refine ⟨S1, B1, env, sr.gro g1, hb.mono env (fun rb q S2 B2 v2 H2 g2 r2 => ?_) q⟩
  obtain ⟨ta, tb, i, j, ea, eb, ei, ej, q⟩ := q
  have sr2 := (sr.gro g1).gro g2
  have p1 := (r1.gro g1.h g2).rep sr2 ea
  have p2 := r2.rep sr2 eb
  rw [ei] at p1
  rw [ej] at p2
  refine sc H2 v1 v2 _ _ (fun d => d = .bl (f i j)) _ p1 p2 rfl fun v d rd e => ?_
  subst e
  cases rd X.K H2
  refine ⟨_, rfl, ?_⟩
  cases hf : f i j with
  | false =>
    rw [hf, if_neg (by simp)] at q
    rw [if_neg (by simp)]
    exact q S2 B2 _ H2 (g1.trans g2) (RR.sc (.bl _))
  | true =>
    rw [hf, if_pos rfl] at q
    rw [if_pos rfl]
    refine ⟨S2, B2, env, sr2, hc.mono env (fun rc q S3 B3 v3 H3 g3 r3 => ?_) q⟩
    obtain ⟨tc, l, ec, el, q⟩ := q
    have sr3 := sr2.gro g3
    have p3 := (r2.gro g2.h g3).rep sr3 eb
    have p4 := r3.rep sr3 ec
    rw [ej] at p3
    rw [el] at p4
    refine sc' H3 v2 v3 _ _ (fun d => d = .bl (g j l)) _ p3 p4 rfl fun v d rd e => ?_
    subst e
    exact q S3 B3 v H3 ((g1.trans g2).trans g3) (RR.sc (rd _ _))
theorem chn_mono (ha : PD X a pa) (hb : PD X b pb) (hc : PD X c pc) : Mono (pChn f g pa pb pc) := fun env P Q m h =>
  ha.mono env (fun ra h => hb.mono env (fun rb ⟨ta, tb, i, j, ea, eb, ei, ej, q⟩ => ⟨ta, tb, i, j, ea, eb, ei, ej, by
    split at q
    · rename_i z
      rw [if_pos z]
      exact hc.mono env (fun rc ⟨tc, l, ec, el, q⟩ => ⟨tc, l, ec, el, m _ q⟩) q
    · rename_i z
      rw [if_neg z]
      exact m _ q⟩) h) h
theorem d_chn (ho : OpR X (compareOp op) r) (ho' : OpR X (compareOp op') r') (sc : Sc2 X.K r (gCmp f)) (sc' : Sc2 X.K r' (gCmp g)) (ha : PD X a pa) (hb : PD X b pb) (hc : PD X c pc) (hm : lastMarks [op, op'] [b, c] = false := by with_unfolding_all rfl) : PD X (.Compare a [op, op'] [b, c] pos) (pChn f g pa pb pc) :=
  ⟨PE.weak (pe_chain ho ho' ha.run hb.run hc.run hm) (chn sc sc' ha hb hc), chn_mono ha hb hc⟩
theorem t_chn (ho : OpR X (compareOp op) r) (ho' : OpR X (compareOp op') r') (sc : Sc2 X.K r (gCmp f)) (sc' : Sc2 X.K r' (gCmp g)) (ha : PD X a pa) (hb : PD X b pb) (hc : PD X c pc) (hm : lastMarks [op, op'] [b, c] = false := by with_unfolding_all rfl) : PDT X (.Compare a [op, op'] [b, c] pos) (pChnT f g pa pb pc) := by
  refine ⟨PT.weak (pt_chain ho ho' ha.run hb.run hc.run hm) fun σ H Q ⟨S, B, env, sr, q⟩ => ?_, fun env P Q m h => chn_mono ha hb hc env (fun r ⟨b, e, q⟩ => ⟨b, e, m _ q⟩) h⟩
  refine chn sc sc' ha hb hc σ H _ ⟨S, B, env, sr, chn_mono ha hb hc env (fun r ⟨b, e, q⟩ => ?_) q⟩
  subst e
  intro S' B' v H' g r
  obtain ⟨F, o, _⟩ := r
  cases o with
  | s o =>
    cases o
    exact ⟨b, rfl, q S' B' H' g⟩
end
section
variable {env : En} {p q s : PX} {i j l : Int} {f g : Int → Int → Bool}
/-- the third operand is read only where the first two agree -/
theorem ev_chn (h : Ev p env (vI i)) (h' : Ev q env (vI j)) (h'' : f i j = true → Ev s env (vI l)) : Ev (pChn f g p q s) env (vB (f i j && g j l)) := fun k hk => h _ (h' _ ⟨_, _, i, j, rfl, rfl, rfl, rfl, by
  cases e : f i j with
  | true =>
    rw [e] at hk
    rw [if_pos rfl]
    exact h'' e _ ⟨_, l, rfl, rfl, hk⟩
  | false =>
    rw [e] at hk
    rw [if_neg (by simp)]
    exact hk⟩)
theorem et_chn (h : Ev p env (vI i)) (h' : Ev q env (vI j)) (h'' : f i j = true → Ev s env (vI l)) : Et (pChnT f g p q s) env (f i j && g j l) := fun k hk => ev_chn h h' h'' _ ⟨_, rfl, hk⟩
end
/-! ### the order of data -/
def ordV (sw neg : Bool) (d e : PyData) : Bool := neg != (if sw = true then dataLt e d else dataLt d e)
def rOrd (sw neg : Bool) (K : PySem.W.Frag) : R2 := fun x y H Q => ∃ d e, Dp K H x d ∧ Dp K H y e ∧ alike d e = true ∧ d ≠ .none ∧ d.depth ≤ 64 ∧ Q (.bl (ordV sw neg d e)) H
section
variable {X : Cx}
theorem op_ordLt (hu : X.A.units + 65 < cLine) : OpR X (compareOp .Lt) (rOrd false false X.K) := fun pins s σ H x y v u Q I rx ry ⟨d, e, hd, he, al, nn, dp, q⟩ => by
  obtain ⟨as, r1⟩ := Dp.reads I d x v hd rx
  obtain ⟨bs, r2⟩ := Dp.reads I e y u he ry
  exact lt_data r1 r2 al nn (by omega) ⟨.bl _, H, I, by simp [ordV]; rfl, q⟩
theorem op_ordGt (hu : X.A.units + 65 < cLine) : OpR X (compareOp .Gt) (rOrd true false X.K) := fun pins s σ H x y v u Q I rx ry ⟨d, e, hd, he, al, nn, dp, q⟩ => by
  obtain ⟨as, r1⟩ := Dp.reads I d x v hd rx
  obtain ⟨bs, r2⟩ := Dp.reads I e y u he ry
  exact gt_data r1 r2 al nn (by omega) ⟨.bl _, H, I, by simp [ordV]; rfl, q⟩
theorem op_ordLe (hu : X.A.units + 65 < cLine) : OpR X (compareOp .LtE) (rOrd true true X.K) := fun pins s σ H x y v u Q I rx ry ⟨d, e, hd, he, al, nn, dp, q⟩ => by
  obtain ⟨as, r1⟩ := Dp.reads I d x v hd rx
  obtain ⟨bs, r2⟩ := Dp.reads I e y u he ry
  exact le_data r1 r2 al nn (by omega) ⟨.bl _, H, I, by simp [ordV]; rfl, q⟩
theorem op_ordGe (hu : X.A.units + 65 < cLine) : OpR X (compareOp .GtE) (rOrd false true X.K) := fun pins s σ H x y v u Q I rx ry ⟨d, e, hd, he, al, nn, dp, q⟩ => by
  obtain ⟨as, r1⟩ := Dp.reads I d x v hd rx
  obtain ⟨bs, r2⟩ := Dp.reads I e y u he ry
  exact ge_data r1 r2 al nn (by omega) ⟨.bl _, H, I, by simp [ordV]; rfl, q⟩
def gOrd (sw neg : Bool) : D → D → (D → Prop) → Prop := fun d e k => (shp 64 d = true ∧ shp 64 e = true ∧ alike d.py e.py = true ∧ d.py ≠ .none) ∧ k (.bl (ordV sw neg d.py e.py))
theorem mono_ord {sw neg : Bool} : MonoG (gOrd sw neg) := fun x y P Q f h => ⟨h.1, f _ h.2⟩
theorem sc_ord {sw neg : Bool} {K : PySem.W.Frag} : Sc2 K (rOrd sw neg K) (gOrd sw neg) := fun H x y d e k Q hx hy ⟨⟨h1, h2, h3, h4⟩, h⟩ q => ⟨_, _, hx.dp _ _ _ h1, hy.dp _ _ _ h2, h3, h4, (shp_py _ _ h1).2, q _ _ (repA_bl _) h⟩
variable {a b : Expr} {pos : Pos} {pa pb : PX} {k : Nat}
theorem d_ltD (hr : Room k X.A) (ha : PD X a pa) (hb : PD X b pb) : PD X (.Compare a [.Lt] [b] pos) (p2 (gOrd false false) pa pb) := d_cmp (op_ordLt (hu65 hr)) sc_ord mono_ord ha hb (nomark _)
theorem d_gtD (hr : Room k X.A) (ha : PD X a pa) (hb : PD X b pb) : PD X (.Compare a [.Gt] [b] pos) (p2 (gOrd true false) pa pb) := d_cmp (op_ordGt (hu65 hr)) sc_ord mono_ord ha hb (nomark _)
theorem d_leD (hr : Room k X.A) (ha : PD X a pa) (hb : PD X b pb) : PD X (.Compare a [.LtE] [b] pos) (p2 (gOrd true true) pa pb) := d_cmp (op_ordLe (hu65 hr)) sc_ord mono_ord ha hb (nomark _)
theorem d_geD (hr : Room k X.A) (ha : PD X a pa) (hb : PD X b pb) : PD X (.Compare a [.GtE] [b] pos) (p2 (gOrd false true) pa pb) := d_cmp (op_ordGe (hu65 hr)) sc_ord mono_ord ha hb (nomark _)
theorem t_ltD (hr : Room k X.A) (ha : PD X a pa) (hb : PD X b pb) : PDT X (.Compare a [.Lt] [b] pos) (p2T (gOrd false false) pa pb) := t_cmp (op_ordLt (hu65 hr)) sc_ord mono_ord ha hb (nomark _)
theorem t_gtD (hr : Room k X.A) (ha : PD X a pa) (hb : PD X b pb) : PDT X (.Compare a [.Gt] [b] pos) (p2T (gOrd true false) pa pb) := t_cmp (op_ordGt (hu65 hr)) sc_ord mono_ord ha hb (nomark _)
theorem t_leD (hr : Room k X.A) (ha : PD X a pa) (hb : PD X b pb) : PDT X (.Compare a [.LtE] [b] pos) (p2T (gOrd true true) pa pb) := t_cmp (op_ordLe (hu65 hr)) sc_ord mono_ord ha hb (nomark _)
theorem t_geD (hr : Room k X.A) (ha : PD X a pa) (hb : PD X b pb) : PDT X (.Compare a [.GtE] [b] pos) (p2T (gOrd false true) pa pb) := t_cmp (op_ordGe (hu65 hr)) sc_ord mono_ord ha hb (nomark _)
end
section
variable {α : Type} {f : α → D} {lt : α → α → Bool} {x y : α} {env : En} {p q : PX} {r r' : R} {sw neg : Bool}
def ordB (lt : α → α → Bool) (sw neg : Bool) (x y : α) : Bool := neg != (if sw = true then lt y x else lt x y)
theorem gOrd_of (o : Ord f lt) (sp : ShpOk 64 f) (nn : (f x).py ≠ .none) (k : D → Prop) (hk : k (.bl (ordB lt sw neg x y))) : gOrd sw neg (f x) (f y) k := ⟨⟨sp x, sp y, o.al x y, nn⟩, by
  have e : ordV sw neg (f x).py (f y).py = ordB lt sw neg x y := by unfold ordV ordB; rw [o.lt, o.lt]
  rw [e]
  exact hk⟩
theorem ev_ord (o : Ord f lt) (sp : ShpOk 64 f) (nn : (f x).py ≠ .none) (h : Ev p env r) (h' : Ev q env r') (x1 : RdR env r (f x)) (x2 : RdR env r' (f y)) : Ev (PL.p2 (gOrd sw neg) p q) env (vB (ordB lt sw neg x y)) := ev_two h h' x1 x2 (gOrd_of o sp nn)
theorem et_ord (o : Ord f lt) (sp : ShpOk 64 f) (nn : (f x).py ≠ .none) (h : Ev p env r) (h' : Ev q env r') (x1 : RdR env r (f x)) (x2 : RdR env r' (f y)) : Et (p2T (gOrd sw neg) p q) env (ordB lt sw neg x y) := et_two h h' x1 x2 (gOrd_of o sp nn)
end
/-! ### the least of a list of data -/
def minL : List PyData → PyData
  | [] => .none
  | x :: xs => minD x xs
def rMinD (K : PySem.W.Frag) : List V → Hp → VK → Prop := fun vs H Q => ∃ (a : Addr) (zs : List (V × PyData)), vs = [V.ref a] ∧ SqL K H a (zs.map (·.1)) ∧ (∀ z ∈ zs, Dp K H z.1 z.2) ∧ AlikeAll (zs.map (·.2)) ∧ (∀ z ∈ zs, z.2.depth ≤ 64) ∧ zs ≠ [] ∧ ∀ z ∈ zs, z.2 = minL (zs.map (·.2)) → Q z.1 H
theorem dpAll_of {K : PySem.W.Frag} {H : Hp} : ∀ {zs : List (V × PyData)}, (∀ z ∈ zs, Dp K H z.1 z.2) → DpAll K H (zs.map (·.1)) (zs.map (·.2))
  | [], _ => .nil
  | z :: zs, h => .cons (h z (.head _)) (dpAll_of fun y hy => h y (.tail _ hy))
theorem depth_all {n : Nat} : ∀ {zs : List PyData}, (∀ z ∈ zs, z.depth ≤ n) → PyData.depthAll zs ≤ n
  | [], _ => Nat.zero_le _
  | z :: zs, h => Nat.max_le.mpr ⟨h z (.head _), depth_all fun y hy => h y (.tail _ hy)⟩
section
variable {X : Cx}
theorem cr_minD (hc : X.calm = true) (hu : X.A.units + 66 < cLine) : CallR X (.builtin "min") (rMinD X.K) := by
  intro pins s σ H vs us Q I r ⟨a, zs, e, hs, hd, hal, hdp, hne, q⟩
  subst e
  obtain ⟨its, rv, hl, hz⟩ := I.list hs
  rw [Vals.ref1 r]
  cases zs with
  | nil => exact absurd rfl hne
  | cons z zs =>
    obtain ⟨as, ra⟩ := Dp.readsAll I _ _ _ (dpAll_of hd) rv
    have dep : PyData.depthAll ((z :: zs).map (·.2)) ≤ 64 := depth_all fun y hy => by
      obtain ⟨w, hw, e⟩ := List.mem_map.mp hy
      rw [← e]
      exact hdp w hw
    refine min_list_data (x := z.2) (xs := zs.map fun y : V × PyData => y.2) (I.ok.hd hc) hl.isList (by simpa using ra) hal (by show _ + 1 + PyData.depthAll ((z :: zs).map (·.2)) < _; omega) fun i v h' tk bs hv rm hk => ?_
    have hlen : its.length = (z :: zs).length := by have := rv.length; rw [List.length_map] at this; omega
    have hi : i < (z :: zs).length := by
      have := (Array.getElem?_eq_some_iff.mp hv).1
      simp at this
      omega
    obtain ⟨u, eu, ru⟩ := rv.get (i := i) (x := ((z :: zs)[i]).1) (by rw [List.getElem?_map, List.getElem?_eq_getElem hi]; rfl)
    have ev : u = v := by
      have : its[i]? = some v := by simpa using hv
      rw [this] at eu
      exact (Option.some.inj eu).symm
    subst ev
    have hm := List.getElem_mem hi
    have I' : Inv X pins σ H { s with heap := h', toks := tk } := I.kept hk
    obtain ⟨bs', rr⟩ := Dp.reads I' _ _ _ (hd _ hm) ru
    have eq := (PySem.Reads.unique rr _ _ rm).1
    exact ⟨_, H, I', ru, q _ hm eq⟩
end
def gMinD (t : T) (k : T → Prop) : Prop := ∃ ds : List D, t.kids = some (.lst, ds.map T.s) ∧ ds ≠ [] ∧ (∀ d ∈ ds, ∀ e ∈ ds, alike d.py e.py = true) ∧ (∀ d ∈ ds, d.py ≠ .none ∧ shp 64 d = true) ∧ ∀ d ∈ ds, d.py = minL (ds.map D.py) → k (.s d)
theorem mono_minD : MonoT gMinD := fun t P Q f ⟨ds, a, b, c, d, e⟩ => ⟨ds, a, b, c, d, fun x hx z => f _ (e x hx z)⟩
theorem ok_minD {K : PySem.W.Frag} : Ok1 K (rMinD K) gMinD := fun S B H x a F Q k sb bh o nb ⟨ds, hk, hne, hal, hok, g⟩ q => by
  obtain ⟨p, vs, rfl, hn, hz, ol⟩ := o.kids (sb.trans bh) hk
  obtain ⟨rp, _⟩ := OwnL.unsh ol
  obtain ⟨z1, z2⟩ := rp.zipd
  have sh : Ex S H := sb.trans bh
  have hrep : ∀ z ∈ vs.zip ds, Rep K S z.1 z.2 := fun z hz => rp.mem hz
  have mds : ∀ z ∈ vs.zip ds, z.2 ∈ ds := fun z hz => by rw [← z2]; exact List.mem_map_of_mem hz
  have y2 : ((vs.zip ds).map fun z => (z.1, z.2.py)).map (·.2) = ds.map D.py := by
    rw [List.map_map]
    show (vs.zip ds).map (fun z => D.py z.2) = _
    conv => rhs; rw [← z2]
    rw [List.map_map]
    rfl
  refine ⟨p, (vs.zip ds).map fun z => (z.1, z.2.py), rfl, ?_, fun y hy => ?_, ?_, fun y hy => ?_, ?_, fun y hy e => ?_⟩
  · rw [List.map_map]
    show SqL K H p ((vs.zip ds).map (·.1))
    rw [z1]
    exact SqL.of hn
  · obtain ⟨z, hz, rfl⟩ := List.mem_map.mp hy
    exact ((hrep z hz).mono sh).dp _ _ 64 (hok _ (mds z hz)).2
  · rw [y2]
    refine ⟨fun d hd e he => ?_, fun d hd => ?_⟩
    · obtain ⟨d', hd', rfl⟩ := List.mem_map.mp hd
      obtain ⟨e', he', rfl⟩ := List.mem_map.mp he
      exact hal _ hd' _ he'
    · obtain ⟨d', hd', rfl⟩ := List.mem_map.mp hd
      exact (hok _ hd').1
  · obtain ⟨z, hz, rfl⟩ := List.mem_map.mp hy
    exact (shp_py _ _ (hok _ (mds z hz)).2).2
  · intro e
    have e := List.map_eq_nil_iff.mp e
    rw [e] at z2
    exact hne z2.symm
  · rw [y2] at e
    obtain ⟨z, hz, rfl⟩ := List.mem_map.mp hy
    exact q _ S B _ _ [] (.refl sb bh) (.s (hrep z hz)) (fun _ w => nomatch w) (g _ (mds z hz) e)
section
variable {X : Cx} {a : Expr} {pos p : Pos} {pa : PX} {k : Nat}
theorem d_minD (hc : X.calm = true) (hr : Room k X.A) (hg : Gl X "min") (hm : X.mg "min" = none) (h : PD X a pa) (he : starEach [a] X.env = (false, eval a X.env) :: starEach [] X.env := by rfl) : PD X (.Call (.Name "min" p) [a] [] pos) (pC1 gMinD pa) := d_callB1 (cr_minD hc (hu66 hr)) ok_minD mono_minD hg hm (by decide +kernel) h (by decide) (by decide) he
end
/-- the first of the least -/
def minBy {α : Type} (lt : α → α → Bool) : List α → Option α
  | [] => none
  | x :: xs => some (xs.foldl (fun a y => if lt y a = true then y else a) x)
section
variable {α : Type} [DecidableEq α] {f : α → D} {lt : α → α → Bool} {xs : List α} {v : α} {env : En} {p : PX} {r : R} {t : T}
theorem minD_map (o : Ord f lt) : ∀ (xs : List α) (x : α), minD (f x).py (xs.map fun a => (f a).py) = (f (xs.foldl (fun a y => if lt y a = true then y else a) x)).py
  | [], x => rfl
  | y :: xs, x => by
    show minD (if dataLt (f y).py (f x).py = true then (f y).py else (f x).py) (xs.map fun a => (f a).py) = (f (xs.foldl _ (if lt y x = true then y else x))).py
    rw [o.lt]
    by_cases c : lt y x = true
    · rw [if_pos c, if_pos c]
      exact minD_map o xs y
    · rw [if_neg c, if_neg c]
      exact minD_map o xs x
theorem ev_minD (o : Ord f lt) (dq : DeqOk f) (sp : ShpOk 64 f) (nn : ∀ a, (f a).py ≠ .none) (h : Ev p env r) (m : MvR env r t) (k : SqT' .lst f xs t) (e : minBy lt xs = some v) : Ev (pC1 gMinD p) env (.va (.s (f v))) := fun z hz => h _ (by
  refine ⟨t, m, xs.map f, by rw [k, List.map_map]; rfl, fun c => ?_, fun d hd e he => ?_, fun d hd => ?_, fun d hd eq => ?_⟩
  · have c := List.map_eq_nil_iff.mp c
    subst c
    cases e
  · obtain ⟨a, _, rfl⟩ := List.mem_map.mp hd
    obtain ⟨b, _, rfl⟩ := List.mem_map.mp he
    exact o.al a b
  · obtain ⟨a, _, rfl⟩ := List.mem_map.mp hd
    exact ⟨nn a, sp a⟩
  · obtain ⟨a, ha, rfl⟩ := List.mem_map.mp hd
    cases xs with
    | nil => cases e
    | cons x xs =>
      have e2 : minL (((x :: xs).map f).map D.py) = (f v).py := by
        show minD (f x).py ((xs.map f).map D.py) = _
        rw [List.map_map]
        refine (minD_map o xs x).trans ?_
        rw [Option.some.inj e]
      rw [e2] at eq
      have h1 := dq a a
      have h2 := dq a v
      unfold deq at h1 h2
      rw [← eq, h1] at h2
      have : a = v := by simpa using h2.symm
      subst this
      exact hz)
end
end PL

/-! Words for the plain laws: what a function that may fail yields. -/
namespace PL
open L2
section
variable {α β σ ρ : Type} {o : Option α} {P Q : α → Prop} {R : β → Prop} {f : α → Option β} {k : Option α} {xs : List α}
def Yl (o : Option α) (P : α → Prop) : Prop := ∃ a, o = some a ∧ P a
theorem yl_some {a : α} (h : P a) : Yl (some a) P := ⟨a, rfl, h⟩
theorem yl_bind (h : Yl o P) (g : ∀ a, P a → Yl (f a) R) : Yl (o.bind f) R := by
  obtain ⟨a, rfl, h⟩ := h
  exact g a h
theorem yl_bindE (h : Yl o P) (g : ∀ a, o = some a → P a → Yl (f a) R) : Yl (o.bind f) R := by
  obtain ⟨a, rfl, h⟩ := h
  exact g a rfl h
theorem yl_mono (h : Yl o P) (g : ∀ a, P a → Q a) : Yl o Q := by
  obtain ⟨a, e, h⟩ := h
  exact ⟨a, e, g a h⟩
theorem yl_bnd {a : α} {f : α → Option β} (h : ∀ x, x = a → Yl (f x) R) : Yl (bnd a f) R := h a rfl
theorem yl_grd {c : Prop} [Decidable c] (hc : c) (h : Yl k P) : Yl (grd c k) P := by unfold grd; rw [if_pos hc]; exact h
theorem yl_ite {b : Bool} {x y : Option α} (h1 : b = true → Yl x P) (h2 : b = false → Yl y P) : Yl (if b = true then x else y) P := by
  cases b with
  | true => exact h1 rfl
  | false => exact h2 rfl
theorem yl_is {a : α} (h : Yl o fun x => x = a) : o = some a := by
  obtain ⟨b, e, rfl⟩ := h
  exact e
theorem is_yl {a : α} (h : o = some a) (hp : P a) : Yl o P := ⟨a, h, hp⟩
theorem bnd_eq {a : α} {f : α → Option β} : bnd a f = f a := rfl
theorem grd_pos {c : Prop} [Decidable c] {k : Option α} (h : c) : grd c k = k := if_pos h
theorem on_nx {s : σ} {n : σ → β} {r : ρ → β} : Ctl.on (.nx s) n r = n s := rfl
theorem on_rt {s : ρ} {n : σ → β} {r : ρ → β} : Ctl.on (.rt s : Ctl σ ρ) n r = r s := rfl
/-! lists by place -/
theorem atI_in {i : Int} (h0 : 0 ≤ i) (h1 : i < (xs.length : Int)) : atI xs i = some (xs[i.toNat]'(by omega)) := by
  unfold L2.atI L2.ixN
  rw [if_pos h0, if_pos h1]
  show xs[i.toNat]? = _
  rw [List.getElem?_eq_getElem]
theorem yl_atI {i : Int} (h0 : 0 ≤ i) (h1 : i < (xs.length : Int)) (h : ∀ q : i.toNat < xs.length, P (xs[i.toNat])) : Yl (atI xs i) P := ⟨_, atI_in h0 h1, h _⟩
theorem yl_at {i : Int} {f : α → Option β} (h0 : 0 ≤ i) (h1 : i < (xs.length : Int)) (h : ∀ q : i.toNat < xs.length, Yl (f xs[i.toNat]) R) : Yl ((atI xs i).bind f) R := by
  rw [atI_in h0 h1]
  exact h _
theorem atI_gi {ns : List Int} {i : Int} (h0 : 0 ≤ i) (h1 : i < (ns.length : Int)) : atI ns i = some (gi ns i.toNat) := by
  rw [atI_in h0 h1, gi_eq]
theorem yl_gi {ns : List Int} {i : Int} {f : Int → Option β} (h0 : 0 ≤ i) (h1 : i < (ns.length : Int)) (h : Yl (f (gi ns i.toNat)) R) : Yl ((atI ns i).bind f) R := by
  rw [atI_gi h0 h1]
  exact h
theorem nI_pos {n : Nat} {i : Int} (h : 0 ≤ i) : nI n i = i.toNat := if_pos h
theorem setAt_len {i : Int} {x : α} : (setAt xs i x).length = xs.length := by unfold setAt; simp
theorem setAt_get {i : Int} {x : α} {j : Nat} (h0 : 0 ≤ i) (hj : j < xs.length) : (setAt xs i x)[j]'(by rw [setAt_len]; exact hj) = if i = j then x else xs[j] := by
  unfold setAt
  simp only [nI_pos h0, List.getElem_set]
  by_cases h : i = (j : Int)
  · rw [if_pos h, if_pos (by omega)]
  · rw [if_neg h, if_neg (by omega)]
/-! loops -/
theorem yl_foldO {b : σ → α → Option σ} : ∀ {xs : List α} {s : σ} (I : Nat → σ → Prop), I 0 s → (∀ k (hk : k < xs.length) s, I k s → Yl (b s xs[k]) (I (k + 1))) → Yl (foldO b xs s) (I xs.length)
  | [], s, I, h0, _ => ⟨s, rfl, h0⟩
  | x :: xs, s, I, h0, hs => by
    refine yl_bind (hs 0 (by simp) s h0) fun s' h1 => ?_
    exact yl_foldO (xs := xs) (fun k => I (k + 1)) h1 fun k hk s h => hs (k + 1) (by simp; omega) s h
theorem yl_foldM {b : σ → α → Option σ} {s : σ} (I : σ → Prop) (h0 : I s) (hs : ∀ x ∈ xs, ∀ s, I s → Yl (b s x) I) : Yl (foldO b xs s) I :=
  yl_foldO (fun _ => I) h0 fun k hk s h => hs _ (List.getElem_mem hk) s h
/-- with the part that has been walked -/
theorem yl_foldP {b : σ → α → Option σ} : ∀ {xs : List α} {s : σ} (I : List α → σ → Prop), I [] s → (∀ pre x suf, xs = pre ++ x :: suf → ∀ s, I pre s → Yl (b s x) (I (pre ++ [x]))) → Yl (foldO b xs s) (I xs)
  | [], s, I, h0, _ => ⟨s, rfl, h0⟩
  | x :: xs, s, I, h0, hs => by
    refine yl_bind (hs [] x xs rfl s h0) fun s' h1 => ?_
    exact yl_foldP (xs := xs) (fun pre => I (x :: pre)) h1 fun pre y suf e s h => hs (x :: pre) y suf (by rw [e]; rfl) s h
theorem rng_get {lo hi : Int} {k : Nat} (h : k < (rng lo hi).length) : (rng lo hi)[k] = lo + (k : Int) := by
  have e : (rng lo hi)[k]? = some (lo + (k : Int)) := by
    rw [rng_len] at h
    unfold rng
    rw [List.getElem?_map, List.getElem?_range h]
    rfl
  exact (List.getElem?_eq_some_iff.mp e).2
theorem rng_mem {lo hi x : Int} : x ∈ rng lo hi ↔ lo ≤ x ∧ x < hi := by
  unfold rng
  rw [List.mem_map]
  constructor
  · rintro ⟨i, hi, rfl⟩
    have := List.mem_range.mp hi
    omega
  · rintro ⟨h1, h2⟩
    exact ⟨(x - lo).toNat, List.mem_range.mpr (by omega), by omega⟩
theorem yl_rng {b : σ → Int → Option σ} {lo hi : Int} {s : σ} (I : Nat → σ → Prop) (h0 : I 0 s) (hs : ∀ k : Nat, lo + (k : Int) < hi → ∀ s, I k s → Yl (b s (lo + (k : Int))) (I (k + 1))) : Yl (foldO b (rng lo hi) s) (I (hi - lo).toNat) := by
  have := yl_foldO (xs := rng lo hi) (b := b) I h0 fun k hk s h => by
    rw [rng_get]
    rw [rng_len] at hk
    exact hs k (by omega) s h
  rwa [rng_len] at this
def CtlP (P : σ → Prop) (R : ρ → Prop) : Ctl σ ρ → Prop
  | .nx s => P s
  | .bk s => P s
  | .rt r => R r
theorem yl_forC {b : σ → α → Option (Ctl σ ρ)} : ∀ {xs : List α} {s : σ} (I : Nat → σ → Prop) (P : σ → Prop) (R : ρ → Prop), I 0 s → (∀ k (hk : k < xs.length) s, I k s → Yl (b s xs[k]) fun c => match c with
    | .nx s => I (k + 1) s
    | .bk s => P s
    | .rt r => R r) → (∀ s, I xs.length s → P s) → Yl (forC b xs s) (CtlP P R)
  | [], s, I, P, R, h0, _, hp => ⟨_, rfl, hp s h0⟩
  | x :: xs, s, I, P, R, h0, hs, hp => by
    refine yl_bind (hs 0 (by simp) s h0) fun c h1 => ?_
    cases c with
    | nx s' => exact yl_forC (xs := xs) (fun k => I (k + 1)) P R h1 (fun k hk s h => hs (k + 1) (by simp; omega) s h) hp
    | bk s' => exact ⟨_, rfl, h1⟩
    | rt r => exact ⟨_, rfl, h1⟩
theorem yl_whileC {c : σ → Option Bool} {b : σ → Option (Ctl σ ρ)} (I : σ → Prop) (P : σ → Prop) (R : ρ → Prop) (μ : σ → Nat) (hs : ∀ s, I s → Yl (c s) fun t => if t = true then Yl (b s) (fun z => match z with
    | .nx s' => I s' ∧ μ s' < μ s
    | .bk s' => P s'
    | .rt r => R r) else P s) : ∀ {N : Nat} {s : σ}, I s → μ s < N → Yl (whileC c b N s) (CtlP P R)
  | 0, s, _, h => absurd h (Nat.not_lt_zero _)
  | N + 1, s, h0, h => by
    refine yl_bind (hs s h0) fun t h1 => ?_
    cases t with
    | false => exact ⟨_, rfl, h1⟩
    | true =>
      refine yl_bind (show Yl (b s) _ from h1) fun z h2 => ?_
      cases z with
      | nx s' => exact yl_whileC I P R μ hs h2.1 (by omega)
      | bk s' => exact ⟨_, rfl, h2⟩
      | rt r => exact ⟨_, rfl, h2⟩
theorem yl_lcO {b : α → Option (Option β)} {xs : List α} (g : α → Option β) (h : ∀ x ∈ xs, b x = some (g x)) : lcO b xs = some (xs.filterMap g) := by
  induction xs with
  | nil => rfl
  | cons x xs ih =>
    show (b x).bind _ = _
    rw [h x (.head _)]
    show (lcO b xs).bind _ = _
    rw [ih fun y hy => h y (.tail _ hy), List.filterMap_cons]
    cases g x <;> rfl
theorem yl_lcP {b : α → Option (Option β)} {R : β → Prop} : ∀ {xs : List α}, (∀ x ∈ xs, Yl (b x) fun o => ∀ y, o = some y → R y) → Yl (lcO b xs) fun ys => ys.length ≤ xs.length ∧ ∀ y ∈ ys, R y
  | [], _ => ⟨[], rfl, Nat.le_refl _, fun _ z => nomatch z⟩
  | x :: xs, h => by
    refine yl_bind (h x (.head _)) fun o h1 => ?_
    refine yl_bind (yl_lcP (xs := xs) fun y hy => h y (.tail _ hy)) fun ys h2 => ?_
    cases o with
    | none => exact ⟨_, rfl, by simp; omega, h2.2⟩
    | some y => exact ⟨_, rfl, by simp; omega, fun z hz => by
        rcases List.mem_cons.mp hz with e | e
        · rw [e]; exact h1 y rfl
        · exact h2.2 z e⟩
end
/-! sorted -/
theorem sortBy_perm {α : Type} {lt : α → α → Bool} {xs : List α} : (sortBy lt xs).Perm xs := List.mergeSort_perm _ _
theorem sortBy_int (xs : List Int) : sortBy (fun a b : Int => decide (a < b)) xs = sortI xs := by
  unfold sortBy sortI
  congr 1
  funext a b
  by_cases h : a ≤ b <;> simp [h] <;> omega
/-- ascending, each once: there is one such list of given items -/
theorem asc_uniq : ∀ {xs ys : List Int}, xs.Pairwise (· < ·) → ys.Pairwise (· < ·) → (∀ z, z ∈ xs ↔ z ∈ ys) → xs = ys := fun {xs ys} h1 h2 h => by
  have p : xs.Perm ys := (List.perm_ext_iff_of_nodup (h1.imp fun h => by omega) (h2.imp fun h => by omega)).mpr h
  exact List.Perm.eq_of_pairwise (le := (· ≤ ·)) (fun a b _ _ q1 q2 => by omega) (h1.imp fun h => by omega) (h2.imp fun h => by omega) p
theorem sortI_asc {xs : List Int} (h : xs.Nodup) : (sortI xs).Pairwise (· < ·) := by
  have h1 := sortI_le xs
  have h2 : (sortI xs).Nodup := (sortI_perm xs).nodup_iff.mpr h
  exact (h1.and h2).imp fun ⟨a, b⟩ => by omega
theorem rng_asc (lo hi : Int) : (rng lo hi).Pairwise (· < ·) := by
  unfold rng
  rw [List.pairwise_map]
  exact List.pairwise_lt_range.imp fun h => by omega

/-! lists by place, with a value for what is not there -/
section
variable {α β : Type} {xs : List α} {d : α} {i j : Int} {R : β → Prop}
def gd (d : α) (xs : List α) (i : Int) : α := xs.getD i.toNat d
theorem gd_eq (h0 : 0 ≤ i) (h1 : i < (xs.length : Int)) : gd d xs i = xs[i.toNat]'(by omega) := by
  unfold gd
  rw [List.getD_eq_getElem?_getD, List.getElem?_eq_getElem (by omega)]
  rfl
theorem atI_gd (d : α) (h0 : 0 ≤ i) (h1 : i < (xs.length : Int)) : atI xs i = some (gd d xs i) := by rw [atI_in h0 h1, gd_eq h0 h1]
theorem yl_gd (d : α) {f : α → Option β} (h0 : 0 ≤ i) (h1 : i < (xs.length : Int)) (h : Yl (f (gd d xs i)) R) : Yl ((atI xs i).bind f) R := by
  rw [atI_gd d h0 h1]
  exact h
theorem gd_set {x : α} (h0 : 0 ≤ i) (h1 : i < (xs.length : Int)) (hj : 0 ≤ j) : gd d (setAt xs i x) j = if i = j then x else gd d xs j := by
  unfold gd setAt
  rw [nI_pos h0, List.getD_eq_getElem?_getD, List.getD_eq_getElem?_getD, List.getElem?_set]
  by_cases h : i = j
  · subst h
    rw [if_pos rfl, if_pos rfl, if_pos (by omega)]
    rfl
  · rw [if_neg h, if_neg (by omega)]
theorem gd_mem (h0 : 0 ≤ i) (h1 : i < (xs.length : Int)) : gd d xs i ∈ xs := by
  rw [gd_eq h0 h1]
  exact List.getElem_mem _
theorem mem_gd {x : α} (h : x ∈ xs) : ∃ i : Int, 0 ≤ i ∧ i < (xs.length : Int) ∧ gd d xs i = x := by
  obtain ⟨k, hk, rfl⟩ := List.getElem_of_mem h
  refine ⟨(k : Int), by omega, by omega, ?_⟩
  rw [gd_eq (by omega) (by omega)]
  rfl
theorem gd_map {f : β → α} {ys : List β} {e : β} (h0 : 0 ≤ i) (h1 : i < (ys.length : Int)) : gd d (ys.map f) i = f (gd e ys i) := by
  rw [gd_eq h0 (by rw [List.length_map]; exact h1), gd_eq h0 h1, List.getElem_map]
theorem gd_rng {lo hi k : Int} (h0 : 0 ≤ k) (h1 : k < hi - lo) {e : Int} : gd e (rng lo hi) k = lo + k := by
  rw [gd_eq h0 (by rw [rng_len]; omega), rng_get]
  omega
theorem gd_app {x : α} (h0 : 0 ≤ i) (h1 : i < (xs.length : Int) + 1) : gd d (xs ++ [x]) i = if i = (xs.length : Int) then x else gd d xs i := by
  unfold gd
  rw [List.getD_eq_getElem?_getD, List.getD_eq_getElem?_getD]
  by_cases h : i = (xs.length : Int)
  · subst h
    rw [if_pos rfl, List.getElem?_append_right (by omega)]
    simp
  · rw [if_neg h, List.getElem?_append_left (by omega)]
theorem nodup_len : ∀ (N : Nat) (xs : List Int), xs.Nodup → (∀ x ∈ xs, 0 ≤ x ∧ x < (N : Int)) → xs.length ≤ N
  | 0, xs, _, h => by
    cases xs with
    | nil => exact Nat.le_refl _
    | cons x xs => have := h x (.head _); omega
  | N + 1, xs, nd, h => by
    by_cases hm : (N : Int) ∈ xs
    · have h1 := nodup_len N (xs.erase (N : Int)) (nd.erase _) fun x hx => by
        have h2 := h x (List.mem_of_mem_erase hx)
        have h3 : x ≠ (N : Int) := fun e => by
          subst e
          exact (nd.not_mem_erase) hx
        omega
      rw [List.length_erase_of_mem hm] at h1
      omega
    · have := nodup_len N xs nd fun x hx => by
        have h2 := h x hx
        have h3 : x ≠ (N : Int) := fun e => hm (e ▸ hx)
        omega
      omega
end
/-! dicts -/
section
variable {κ α : Type} [DecidableEq κ] {m : List (κ × α)} {k : κ} {v : α}
theorem dhas_iff : dhas m k = true ↔ k ∈ m.map (·.1) := by
  unfold dhas
  rw [List.any_eq_true, List.mem_map]
  simp
theorem dhas_false : dhas m k = false ↔ k ∉ m.map (·.1) := by
  rw [← dhas_iff]
  cases dhas m k <;> simp
theorem dput_new (h : k ∉ m.map (·.1)) : dput m k v = m ++ [(k, v)] := by
  unfold dput
  have : m.findIdx? (fun p => decide (p.1 = k)) = none := by
    rw [List.findIdx?_eq_none_iff]
    intro x hx
    exact decide_eq_false fun e => h (List.mem_map.mpr ⟨x, hx, e⟩)
  rw [this]
theorem dget_mem : ∀ {m : List (κ × α)}, (m.map (·.1)).Nodup → (dget m k = some v ↔ (k, v) ∈ m)
  | [], _ => by simp [dget]
  | (k', v') :: m, nd => by
    have nd' := List.nodup_cons.mp (show (k' :: m.map (·.1)).Nodup from nd)
    by_cases e : k' = k
    · subst e
      have : dget ((k', v') :: m) k' = some v' := by unfold dget; rw [List.find?_cons_of_pos (by simp)]; rfl
      rw [this]
      constructor
      · intro h; cases h; exact .head _
      · intro h
        rcases List.mem_cons.mp h with z | z
        · cases z; rfl
        · exact absurd (List.mem_map.mpr ⟨_, z, rfl⟩) nd'.1
    · have : dget ((k', v') :: m) k = dget m k := by unfold dget; rw [List.find?_cons_of_neg (by simpa using e)]
      rw [this, dget_mem nd'.2]
      constructor
      · exact fun h => .tail _ h
      · intro h
        rcases List.mem_cons.mp h with z | z
        · cases z; exact absurd rfl e
        · exact z
end
end PL

namespace K02
open PySem L2 PL
/-! touching -/
def touching_b2 (number : Int) (holders : (List (List Int))) (node : Int) : Option ((List (List Int))) :=
  (atI holders node).bind fun l =>
  grd ((l).length < 16777216) <|
  bnd (setAt holders node (l ++ [number])) fun holders_1 =>
  some holders_1
def touching_b1 (edges : (Bool × List (Bool × List Int))) (holders : (List (List Int))) (number : Int) : Option ((List (List Int))) :=
  (atI edges.2 number).bind fun e_v =>
  ((foldO (fun (q : ((List (List Int)))) (w : Int) => touching_b2 number q w) e_v.2 holders)).bind fun holders_1 =>
  some holders_1
def touching (nodes : Int) (edges : (Bool × List (Bool × List Int))) : Option (List (List Int)) :=
  grd (-4611686018427387904 ≤ nodes ∧ nodes < 4611686018427387904) <|
  grd (((rng 0 nodes)).length ≤ 16777216) <|
  bnd (((rng 0 nodes).map fun i => ([] : List Int))) fun holders =>
  grd (-4611686018427387904 ≤ ((edges.2).length : Int) ∧ ((edges.2).length : Int) < 4611686018427387904) <|
  ((foldO (fun (q : ((List (List Int)))) (w : Int) => touching_b1 edges q w) (rng 0 ((edges.2).length : Int)) holders)).bind fun holders_1 =>
  some holders_1
/-! fresh_neighbours -/
def fresh_neighbours_b2 (reached : (List Bool)) (number : Int) (found : (List (Int × Int))) (other : Int) : Option ((List (Int × Int))) :=
  (atI reached other).bind fun e_v =>
  if ((!e_v) && (!dhas found other)) then
  (grd ((found).length < 16777216) <|
  bnd (dput found other number) fun found_1 =>
  some found_1)
  else
  (some found)
def fresh_neighbours_b1 (edges : (Bool × List (Bool × List Int))) (reached : (List Bool)) (used : (List Bool)) (found : (List (Int × Int))) (number : Int) : Option ((List Bool) × (List (Int × Int))) :=
  (atI used number).bind fun e_v =>
  if (!e_v) then
  ((atI used number).bind fun old =>
  bnd (setAt used number true) fun used_1 =>
  (atI edges.2 number).bind fun e_v_1 =>
  ((foldO (fun (q : ((List (Int × Int)))) (w : Int) => fresh_neighbours_b2 reached number q w) e_v_1.2 found)).bind fun found_1 =>
  some (used_1, found_1))
  else
  (some (used, found))
def fresh_neighbours (node : Int) (edges : (Bool × List (Bool × List Int))) (holders : (List (List Int))) (used : (List Bool)) (reached : (List Bool)) : Option ((List (Int × Int)) × (List Bool)) :=
  bnd (([] : (List (Int × Int)))) fun found =>
  (atI holders node).bind fun e_v =>
  ((foldO (fun (q : ((List Bool) × (List (Int × Int)))) (w : Int) => fresh_neighbours_b1 edges reached q.1 q.2 w) e_v (used, found))).bind fun (used_1, found_1) =>
  (lcO (fun (i : Int) => ((dget found_1 i).bind fun v =>
  some (some (i, v)) : Option (Option (Int × Int)))) (sortI (found_1.map (·.1)))).bind fun l =>
  some (l, used_1)
/-! spread -/
def spread_b1_c (order : (List Int)) (at_v : Int) : Option Bool :=
  some (decide (at_v < ((order).length : Int)))
def spread_b2 (node : Int) (reached : (List Bool)) (order : (List Int)) (links : (List (Int × Int × Int))) (other : Int) (number : Int) : Option ((List Bool) × (List Int) × (List (Int × Int × Int))) :=
  (atI reached other).bind fun old =>
  bnd (setAt reached other true) fun reached_1 =>
  grd ((order).length < 16777216) <|
  bnd (order ++ [other]) fun order_1 =>
  grd ((links).length < 16777216) <|
  bnd (links ++ [(node, number, other)]) fun links_1 =>
  some (reached_1, order_1, links_1)
def spread_b1 (edges : (Bool × List (Bool × List Int))) (holders : (List (List Int))) (used : (List Bool)) (reached : (List Bool)) (order : (List Int)) (links : (List (Int × Int × Int))) (at_v : Int) : Option (Ctl ((List Bool) × (List Bool) × (List Int) × (List (Int × Int × Int)) × Int) Empty) :=
  (atI order at_v).bind fun e_v =>
  bnd (e_v) fun node =>
  (fresh_neighbours node edges holders used reached).bind fun (v, used_1) =>
  ((foldO (fun (q : ((List Bool) × (List Int) × (List (Int × Int × Int)))) (w : (Int × Int)) => spread_b2 node q.1 q.2.1 q.2.2 w.1 w.2) v (reached, order, links))).bind fun (reached_1, order_1, links_1) =>
  bnd ((at_v + (1 : Int))) fun at_v_1 =>
  some (.nx (used_1, reached_1, order_1, links_1, at_v_1))
def spread (nodes : Int) (edges : (Bool × List (Bool × List Int))) (start : Int) : Option (List (Int × Int × Int)) :=
  (touching nodes edges).bind fun v =>
  bnd (v) fun holders =>
  bnd ((edges.2.map fun x_v => false)) fun used =>
  grd (-4611686018427387904 ≤ nodes ∧ nodes < 4611686018427387904) <|
  grd (((rng 0 nodes)).length ≤ 16777216) <|
  bnd (((rng 0 nodes).map fun i => false)) fun reached =>
  (atI reached start).bind fun old =>
  bnd (setAt reached start true) fun reached_1 =>
  bnd ([start]) fun order =>
  bnd (([] : List (Int × Int × Int))) fun links =>
  bnd ((0 : Int)) fun at_v =>
  ((whileC (ρ := Empty) (fun (q : ((List Bool) × (List Bool) × (List Int) × (List (Int × Int × Int)) × Int)) => spread_b1_c q.2.2.1 q.2.2.2.2) (fun (q : ((List Bool) × (List Bool) × (List Int) × (List (Int × Int × Int)) × Int)) => spread_b1 edges holders q.1 q.2.1 q.2.2.1 q.2.2.2.1 q.2.2.2.2) fuelN (used, reached_1, order, links, at_v))).bind fun c_v =>
  Ctl.on c_v (fun (used_1, reached_2, order_1, links_1, at_v_1) =>
  some links_1) (fun r => r.elim)
/-! _law_whole -/
def law_whole (value : Int) : Option Bool :=
  some (true && (!false))
/-! _law_cell -/
def law_cell_b1 (seed : Int) (cell : Int) : Option (Int) :=
  bnd ((((seed * (31 : Int)) + (cell % (1000003 : Int))) % (1000003 : Int))) fun seed_1 =>
  some seed_1
def law_cell (script : (List Int)) (k_v : Int) : Option Int :=
  if (decide (k_v < ((script).length : Int))) then
  ((atI script k_v).bind fun e_v =>
  if (decide ((1000000000000000000 : Int) ≤ e_v)) then
  ((atI script k_v).bind fun e_v_1 =>
  some e_v_1)
  else
  ((atI script k_v).bind fun e_v_2 =>
  some (((e_v_2 % (1000000007 : Int)) * (64 : Int)) + k_v)))
  else
  (bnd ((17 : Int)) fun seed =>
  ((foldO (fun (q : (Int)) (w : Int) => law_cell_b1 q w) script seed)).bind fun seed_1 =>
  grd ((-18446744073709551616 < (seed_1 + (7 : Int)) ∧ (seed_1 + (7 : Int)) < 18446744073709551616) ∨ (-18446744073709551616 < (k_v + (3 : Int)) ∧ (k_v + (3 : Int)) < 18446744073709551616)) <|
  some ((((seed_1 + (7 : Int)) * (k_v + (3 : Int))) * (69621 : Int)) % (2147483647 : Int)))
/-! _law_digits -/
def law_digits_b1 (row : (List Int)) (rest_v : Int) (size : Int) : Option ((List Int) × Int) :=
  grd (0 < size) <|
  grd ((row).length < 16777216) <|
  bnd (row ++ [(rest_v % size)]) fun row_1 =>
  grd (0 < size ∧ size ≤ 4611686018427387904) <|
  bnd ((rest_v / size)) fun rest_v_1 =>
  some (row_1, rest_v_1)
def law_digits_b2 (sizes : (List Int)) (row : (List Int)) (seed : Int) (k_v : Int) : Option ((List Int) × Int) :=
  bnd (((((seed * (48271 : Int)) + ((974711 : Int) * k_v)) + (12345 : Int)) % (2147483647 : Int))) fun seed_1 =>
  grd ((-18446744073709551616 < seed_1 ∧ seed_1 < 18446744073709551616) ∨ (-18446744073709551616 < ((seed_1 / (65537 : Int)) + (3 : Int)) ∧ ((seed_1 / (65537 : Int)) + (3 : Int)) < 18446744073709551616)) <|
  bnd (((seed_1 * ((seed_1 / (65537 : Int)) + (3 : Int))) % (2147483629 : Int))) fun twice =>
  (atI sizes k_v).bind fun e_v =>
  grd (0 < e_v) <|
  grd ((row).length < 16777216) <|
  bnd (row ++ [((twice / (19 : Int)) % e_v)]) fun row_1 =>
  some (row_1, seed_1)
def law_digits (cell : Int) (sizes : (List Int)) : Option (List Int) :=
  bnd (([] : List Int)) fun row =>
  bnd (cell) fun rest_v =>
  if (decide ((1000000000000000000 : Int) ≤ rest_v)) then
  (bnd ((rest_v - (1000000000000000000 : Int))) fun rest_v_1 =>
  ((foldO (fun (q : ((List Int) × Int)) (w : Int) => law_digits_b1 q.1 q.2 w) sizes (row, rest_v_1))).bind fun (row_1, rest_v_2) =>
  some row_1)
  else
  (bnd ((rest_v % (2147483629 : Int))) fun seed =>
  grd (-4611686018427387904 ≤ ((sizes).length : Int) ∧ ((sizes).length : Int) < 4611686018427387904) <|
  ((foldO (fun (q : ((List Int) × Int)) (w : Int) => law_digits_b2 sizes q.1 q.2 w) (rng 0 ((sizes).length : Int)) (row, seed))).bind fun (row_2, seed_1) =>
  some row_2)
/-! _law_held -/
def law_held (nodes : Int) (chosen : (List Int)) : Option (List Int) :=
  grd (-4611686018427387904 ≤ nodes ∧ nodes < 4611686018427387904) <|
  grd (((rng 0 nodes)).length ≤ 16777216) <|
  some ((rng 0 nodes).filter fun i => (memL i chosen))
/-! _law_small_edge -/
def law_small_edge_J1 (nodes : Int) (edges : (List (List Int))) (loose : Bool) (powers : (List Int)) (row : (List Int)) (one : Int) (two : Int) (near : Int) : Option (List Int) :=
  (atI row (0 : Int)).bind fun e_v =>
  if (decide (e_v = (0 : Int))) then
  (some [one])
  else
  ((atI row (0 : Int)).bind fun e_v_1 =>
  if ((decide (e_v_1 = (1 : Int))) && (decide ((0 : Int) < ((edges).length : Int)))) then
  ((atI row (5 : Int)).bind fun e_v_2 =>
  grd (0 < ((edges).length : Int)) <|
  (atI edges (e_v_2 % ((edges).length : Int))).bind fun e_v_3 =>
  some e_v_3)
  else
  ((atI row (0 : Int)).bind fun e_v_4 =>
  if (decide (e_v_4 = (2 : Int))) then
  (grd (-4611686018427387904 ≤ nodes ∧ nodes < 4611686018427387904) <|
  grd (((rng 0 nodes)).length ≤ 16777216) <|
  (lcO (fun (i : Int) => ((atI row (4 : Int)).bind fun e_v_5 =>
  (atI powers i).bind fun e_v_6 =>
  grd (0 < e_v_6 ∧ e_v_6 ≤ 4611686018427387904) <|
  if (decide ((((e_v_5 + (1 : Int)) / e_v_6) % (2 : Int)) = (1 : Int))) then (some (some i)) else some none : Option (Option Int))) (rng 0 nodes)).bind fun l =>
  some l)
  else
  ((atI row (0 : Int)).bind fun e_v_7 =>
  if (decide (e_v_7 = (3 : Int))) then
  ((law_held nodes [one, (one + (1 : Int)), (one + (2 : Int))]).bind fun v =>
  some v)
  else
  ((atI row (0 : Int)).bind fun e_v_8 =>
  if ((decide ((8 : Int) < e_v_8)) && loose) then
  ((law_held nodes [one, two]).bind fun v_1 =>
  some v_1)
  else
  ((law_held nodes [one, near]).bind fun v_2 =>
  some v_2)))))
def law_small_edge (cell : Int) (nodes : Int) (edges : (List (List Int))) (loose : Bool) : Option (List Int) :=
  bnd ([(1 : Int), (2 : Int), (4 : Int), (8 : Int), (16 : Int), (32 : Int), (64 : Int), (128 : Int), (256 : Int)]) fun powers =>
  (atI powers nodes).bind fun e_v =>
  (law_digits cell [(12 : Int), nodes, nodes, (2 : Int), (e_v - (1 : Int)), (9 : Int)]).bind fun v =>
  bnd (v) fun row =>
  (atI row (1 : Int)).bind fun e_v_1 =>
  bnd (e_v_1) fun one =>
  (atI row (2 : Int)).bind fun e_v_2 =>
  grd (0 < (if (nodes - (1 : Int)) > (1 : Int) then (nodes - (1 : Int)) else (1 : Int))) <|
  grd (0 < nodes) <|
  bnd ((((one + (1 : Int)) + (e_v_2 % (if (nodes - (1 : Int)) > (1 : Int) then (nodes - (1 : Int)) else (1 : Int)))) % nodes)) fun two =>
  (atI row (3 : Int)).bind fun e_v_3 =>
  bnd (((one + (1 : Int)) + e_v_3)) fun near =>
  if (decide (nodes ≤ near)) then
  ((atI row (3 : Int)).bind fun e_v_4 =>
  bnd ((if ((one - (1 : Int)) - e_v_4) > (0 : Int) then ((one - (1 : Int)) - e_v_4) else (0 : Int))) fun near_1 =>
  law_small_edge_J1 nodes edges loose powers row one two near_1)
  else
  (law_small_edge_J1 nodes edges loose powers row one two near)
/-! _law_wide_edges -/
def law_wide_edges_b1 (nodes : Int) (row : (List Int)) (edges : (List (List Int))) (k_v : Int) : Option ((List (List Int))) :=
  (atI row (((5 : Int) * k_v) + (1 : Int))).bind fun e_v =>
  grd (0 < nodes) <|
  bnd ((e_v % nodes)) fun one =>
  (atI row (((5 : Int) * k_v) + (4 : Int))).bind fun e_v_1 =>
  bnd ((if ((one + (1 : Int)) + e_v_1) < (nodes - (1 : Int)) then ((one + (1 : Int)) + e_v_1) else (nodes - (1 : Int)))) fun near =>
  (atI row (((5 : Int) * k_v) + (2 : Int))).bind fun e_v_2 =>
  grd (0 < nodes) <|
  bnd ((e_v_2 % nodes)) fun two =>
  (atI row (((5 : Int) * k_v) + (3 : Int))).bind fun e_v_3 =>
  grd (0 < nodes) <|
  bnd ((e_v_3 % nodes)) fun three =>
  bnd ([[one], [one, near], [one, near], [one, near], [one, two], [one, near, (near - (1 : Int))]]) fun chosen =>
  grd ((chosen).length < 16777216) <|
  bnd (chosen ++ [[one, near, two, three]]) fun chosen_1 =>
  (atI row (((5 : Int) * k_v) + (4 : Int))).bind fun e_v_4 =>
  grd (-4611686018427387904 ≤ ((5 : Int) + ((4 : Int) * e_v_4)) ∧ ((5 : Int) + ((4 : Int) * e_v_4)) < 4611686018427387904) <|
  grd (((rng 0 ((5 : Int) + ((4 : Int) * e_v_4)))).length ≤ 16777216) <|
  grd ((chosen_1).length < 16777216) <|
  bnd (chosen_1 ++ [((rng 0 ((5 : Int) + ((4 : Int) * e_v_4))).map fun i => (one + i))]) fun chosen_2 =>
  (atI row ((5 : Int) * k_v)).bind fun e_v_5 =>
  (atI chosen_2 e_v_5).bind fun e_v_6 =>
  (law_held nodes e_v_6).bind fun v =>
  grd ((edges).length < 16777216) <|
  bnd (edges ++ [v]) fun edges_1 =>
  some edges_1
def law_wide_edges (cell : Int) (nodes : Int) : Option (List (List Int)) :=
  (law_digits cell (repL [(8 : Int), (60 : Int), (60 : Int), (60 : Int), (5 : Int)] (7 : Int))).bind fun v =>
  bnd (v) fun row =>
  bnd (([] : List (List Int))) fun edges =>
  ((foldO (fun (q : ((List (List Int)))) (w : Int) => law_wide_edges_b1 nodes row q w) (rng 0 (7 : Int)) edges)).bind fun edges_1 =>
  some edges_1
/-! _law_net -/
def law_net_b1 (script : (List Int)) (at_v : Int) (nodes : Int) (edges : (List (List Int))) (k_v : Int) : Option ((List (List Int))) :=
  (law_cell script ((at_v + (1 : Int)) + k_v)).bind fun v =>
  (law_wide_edges v nodes).bind fun v_1 =>
  grd ((edges).length + (v_1).length ≤ sizeLine) <|
  bnd ((edges ++ v_1)) fun edges_1 =>
  some edges_1
def law_net_b2 (script : (List Int)) (at_v : Int) (shape : (List Int)) (nodes : Int) (edges : (List (List Int))) (k_v : Int) : Option ((List (List Int))) :=
  (law_cell script ((at_v + (1 : Int)) + k_v)).bind fun v =>
  (atI shape (5 : Int)).bind fun e_v =>
  (law_small_edge v nodes edges (decide (e_v = (0 : Int)))).bind fun v_1 =>
  grd ((edges).length < 16777216) <|
  bnd (edges ++ [v_1]) fun edges_1 =>
  some edges_1
def law_net_J1 (shape : (List Int)) (nodes : Int) (edges : (List (List Int))) : Option (Int × (List (List Int))) :=
  grd (-4611686018427387904 ≤ nodes ∧ nodes < 4611686018427387904) <|
  grd (((rng 0 nodes)).length ≤ 16777216) <|
  (lcO (fun (i : Int) => ((atI shape ((6 : Int) + i)).bind fun e_v =>
  some (some (e_v, i)) : Option (Option (Int × Int)))) (rng 0 nodes)).bind fun l =>
  bnd (((sortBy (ordT2 (fun a b : Int => decide (a < b)) (fun a b : Int => decide (a < b))) l).map fun x_v => x_v.2)) fun order =>
  (lcO (fun (x_v_1 : (List Int)) => ((lcO (fun (i_1 : Int) => ((atI order i_1).bind fun e_v_1 =>
  some (some e_v_1) : Option (Option Int))) x_v_1).bind fun l_1 =>
  some (some (sortBy (fun a b : Int => decide (a < b)) l_1)) : Option (Option (List Int)))) edges).bind fun l_2 =>
  some (nodes, l_2)
def law_net (script : (List Int)) (at_v : Int) : Option (Int × (List (List Int))) :=
  (law_cell script at_v).bind fun v =>
  grd (([(16 : Int), (24 : Int), (8 : Int), (52 : Int), (56 : Int), (3 : Int)]).length + ((repL [(1000 : Int)] (60 : Int))).length ≤ sizeLine) <|
  (law_digits v ([(16 : Int), (24 : Int), (8 : Int), (52 : Int), (56 : Int), (3 : Int)] ++ (repL [(1000 : Int)] (60 : Int)))).bind fun v_1 =>
  bnd (v_1) fun shape =>
  (atI shape (0 : Int)).bind fun e_v =>
  (atI [(8 : Int), (7 : Int), (6 : Int), (5 : Int), (4 : Int), (3 : Int), (2 : Int), (1 : Int), (8 : Int), (7 : Int), (8 : Int), (6 : Int), (8 : Int), (7 : Int), (8 : Int), (6 : Int)] e_v).bind fun e_v_1 =>
  bnd (e_v_1) fun nodes =>
  (atI shape (1 : Int)).bind fun e_v_2 =>
  (atI [(9 : Int), (8 : Int), (7 : Int), (6 : Int), (5 : Int), (4 : Int), (3 : Int), (2 : Int), (1 : Int), (0 : Int), (9 : Int), (8 : Int), (7 : Int), (9 : Int), (8 : Int), (6 : Int), (9 : Int), (8 : Int), (7 : Int), (9 : Int), (8 : Int), (7 : Int), (9 : Int), (9 : Int)] e_v_2).bind fun e_v_3 =>
  bnd (e_v_3) fun many =>
  bnd (([] : List (List Int))) fun edges =>
  (atI shape (2 : Int)).bind fun e_v_4 =>
  if (decide (e_v_4 = (7 : Int))) then
  ((atI shape (3 : Int)).bind fun e_v_5 =>
  bnd (((9 : Int) + e_v_5)) fun nodes_1 =>
  ((foldO (fun (q : ((List (List Int)))) (w : Int) => law_net_b1 script at_v nodes_1 q w) (rng 0 (9 : Int)) edges)).bind fun edges_1 =>
  (atI shape (4 : Int)).bind fun e_v_6 =>
  bnd ((cutL edges_1 none (some ((8 : Int) + e_v_6)))) fun edges_2 =>
  law_net_J1 shape nodes_1 edges_2)
  else
  (grd (-4611686018427387904 ≤ many ∧ many < 4611686018427387904) <|
  ((foldO (fun (q : ((List (List Int)))) (w : Int) => law_net_b2 script at_v shape nodes q w) (rng 0 many) edges)).bind fun edges_3 =>
  law_net_J1 shape nodes edges_3)
/-! _law_form -/
def law_form (rows : (List (List Int))) (form : Int) : Option (Bool × List (Bool × List Int)) :=
  if (decide (form = (0 : Int))) then
  (some ((fun xs => (false, xs)) (rows.map fun x_v => ((fun xs => (false, xs)) x_v))))
  else
  (if (decide (form = (1 : Int))) then
  (some ((fun xs => (true, xs)) (rows.map fun x_v_1 => ((fun xs => (true, xs)) x_v_1))))
  else
  (if (decide (form = (2 : Int))) then
  (some ((fun xs => (false, xs)) (rows.map fun x_v_2 => ((fun xs => (true, xs)) x_v_2))))
  else
  (some ((fun xs => (true, xs)) (rows.map fun x_v_3 => ((fun xs => (false, xs)) x_v_3))))))
/-! _law_numbers -/
def law_numbers_b1 (told : (Int × Int × Int)) (due : (Int × Int × Int)) (k_v : Int) : Option (Ctl Unit Bool) :=
  (atI ((fun p => [p.1, p.2.1, p.2.2]) told) k_v).bind fun e_v =>
  (law_whole e_v).bind fun v =>
  (if (!v) then some true else ((atI ((fun p => [p.1, p.2.1, p.2.2]) told) k_v).bind fun e_v_1 =>
  (atI ((fun p => [p.1, p.2.1, p.2.2]) due) k_v).bind fun e_v_2 =>
  some (!decide (e_v_1 = e_v_2)))).bind fun b =>
  if b then
  (some (.rt false))
  else
  (some (.nx ()))
def law_numbers (told : (Int × Int × Int)) (due : (Int × Int × Int)) : Option Bool :=
  if ((!true) || (!decide ((3 : Int) = (3 : Int)))) then
  (some false)
  else
  (((forC (ρ := Bool) (fun (q : Unit) (w : Int) => law_numbers_b1 told due w) (rng 0 (3 : Int)) ())).bind fun c_v =>
  Ctl.on c_v (fun _ =>
  some true) (fun r => some r))
/-! _law_rows -/
def law_rows_b3 (turn : Int) (near : (List (List Int))) (least : (List (Option (List Int)))) (grown : Int) (node : Int) : Option ((List (Option (List Int))) × Int) :=
  (minBy (ordL (fun a b : Int => decide (a < b))) near).bind fun m =>
  grd ((m).length + (((fun p => [p]) node)).length ≤ sizeLine) <|
  bnd ((m ++ ((fun p => [p]) node))) fun row =>
  (atI least node).bind fun e_v =>
  (if e_v.isNone then some true else ((atI least node).bind fun e_v_1 =>
  (e_v_1).bind fun z =>
  (if (decide (((z).length : Int) = (turn + (2 : Int)))) then ((atI least node).bind fun e_v_2 =>
  (e_v_2).bind fun z_1 =>
  some (ordB (ordL (fun a b : Int => decide (a < b))) false false row z_1)) else some false).bind fun b =>
  some b)).bind fun b_1 =>
  if b_1 then
  ((atI least node).bind fun old =>
  bnd (setAt least node (some row)) fun least_1 =>
  bnd ((grown + (1 : Int))) fun grown_1 =>
  some (least_1, grown_1))
  else
  (some (least, grown))
def law_rows_b2 (turn : Int) (least : (List (Option (List Int)))) (grown : Int) (edge : (List Int)) : Option ((List (Option (List Int))) × Int) :=
  (lcO (fun (i : Int) => ((atI least i).bind fun e_v =>
  some (some e_v) : Option (Option (Option (List Int))))) edge).bind fun l =>
  (lcO (fun (x_v : (Option (List Int))) => ((if (!x_v.isNone) then ((x_v).bind fun z =>
  some (decide (((z).length : Int) = (turn + (1 : Int))))) else some false).bind fun b =>
  if b then ((x_v).bind fun z_1 =>
  some (some z_1)) else some none : Option (Option (List Int)))) l).bind fun l_1 =>
  bnd (l_1) fun near =>
  if (decide ((0 : Int) < ((near).length : Int))) then
  (((foldO (fun (q : ((List (Option (List Int))) × Int)) (w : Int) => law_rows_b3 turn near q.1 q.2 w) edge (least, grown))).bind fun (least_1, grown_1) =>
  some (least_1, grown_1))
  else
  (some (least, grown))
def law_rows_b1 (edges : (List (List Int))) (least : (List (Option (List Int)))) (turn : Int) : Option (Ctl ((List (Option (List Int)))) Empty) :=
  bnd ((0 : Int)) fun grown =>
  ((foldO (fun (q : ((List (Option (List Int))) × Int)) (w : (List Int)) => law_rows_b2 turn q.1 q.2 w) edges (least, grown))).bind fun (least_1, grown_1) =>
  if (decide (grown_1 = (0 : Int))) then
  (some (.bk least_1))
  else
  (some (.nx least_1))
def law_rows (nodes : Int) (edges : (List (List Int))) (start : Int) : Option (List (Option (List Int))) :=
  grd (-4611686018427387904 ≤ nodes ∧ nodes < 4611686018427387904) <|
  grd (((rng 0 nodes)).length ≤ 16777216) <|
  bnd (((rng 0 nodes).map fun i => (none : (Option (List Int))))) fun least =>
  (atI least start).bind fun old =>
  bnd (setAt least start ((fun x => some ((fun p => [p]) x)) start)) fun least_1 =>
  grd (-4611686018427387904 ≤ nodes ∧ nodes < 4611686018427387904) <|
  ((forC (ρ := Empty) (fun (q : ((List (Option (List Int))))) (w : Int) => law_rows_b1 edges q w) (rng 0 nodes) least_1)).bind fun c_v =>
  Ctl.on c_v (fun least_2 =>
  some least_2) (fun r => r.elim)
/-! _law_links -/
def law_links_b1 (edges : (List (List Int))) (links : (List (Int × Int × Int))) (pair : (Int × (List Int))) : Option ((List (Int × Int × Int))) :=
  (atI pair.2 (pair.1 - (2 : Int))).bind fun e_v =>
  bnd (e_v) fun one =>
  (atI pair.2 (pair.1 - (1 : Int))).bind fun e_v_1 =>
  bnd (e_v_1) fun two =>
  grd (-4611686018427387904 ≤ ((edges).length : Int) ∧ ((edges).length : Int) < 4611686018427387904) <|
  grd (((rng 0 ((edges).length : Int))).length ≤ 16777216) <|
  (lcO (fun (i : Int) => ((atI edges i).bind fun e_v_2 =>
  (if (memL one e_v_2) then ((atI edges i).bind fun e_v_3 =>
  some (memL two e_v_3)) else some false).bind fun b =>
  if b then (some (some i)) else some none : Option (Option Int))) (rng 0 ((edges).length : Int))).bind fun l =>
  bnd (l) fun both =>
  (atI both (0 : Int)).bind fun e_v_4 =>
  grd ((links).length < 16777216) <|
  bnd (links ++ [(one, e_v_4, two)]) fun links_1 =>
  some links_1
def law_links (nodes : Int) (edges : (List (List Int))) (start : Int) : Option (List (Int × Int × Int)) :=
  (law_rows nodes edges start).bind fun v =>
  bnd (v) fun least =>
  bnd (([] : List (Int × Int × Int))) fun links =>
  (lcO (fun (x_v : (Option (List Int))) => ((if (!x_v.isNone) then ((x_v).bind fun z =>
  some (decide ((1 : Int) < ((z).length : Int)))) else some false).bind fun b =>
  if b then ((x_v).bind fun z_1 =>
  (x_v).bind fun z_2 =>
  some (some (((z_1).length : Int), z_2))) else some none : Option (Option (Int × (List Int))))) least).bind fun l =>
  ((foldO (fun (q : ((List (Int × Int × Int)))) (w : (Int × (List Int))) => law_links_b1 edges q w) (sortBy (ordT2 (fun a b : Int => decide (a < b)) (ordL (fun a b : Int => decide (a < b)))) l) links)).bind fun links_1 =>
  some links_1
/-! _law_asked -/
def law_asked_b1 (links : (List (Int × Int × Int))) (told : (List (Int × Int × Int))) (k_v : Int) : Option (Ctl Unit Bool) :=
  (atI told k_v).bind fun e_v =>
  (atI links k_v).bind fun e_v_1 =>
  (law_numbers e_v e_v_1).bind fun v =>
  if (!v) then
  (some (.rt false))
  else
  (some (.nx ()))
def law_asked (nodes : Int) (edges : (List (List Int))) (start : Int) (links : (List (Int × Int × Int))) (form : Int) : Option Bool :=
  (law_form edges form).bind fun v =>
  bnd (v) fun handed =>
  (spread nodes handed start).bind fun v_1 =>
  bnd (v_1) fun told =>
  (law_form edges form).bind fun v_2 =>
  if ((!decide (handed = v_2)) || ((!true) || (!decide (((told).length : Int) = ((links).length : Int))))) then
  (some false)
  else
  (grd (-4611686018427387904 ≤ ((links).length : Int) ∧ ((links).length : Int) < 4611686018427387904) <|
  ((forC (ρ := Bool) (fun (q : Unit) (w : Int) => law_asked_b1 links told w) (rng 0 ((links).length : Int)) ())).bind fun c_v =>
  Ctl.on c_v (fun _ =>
  some true) (fun r => some r))
/-! _law_path -/
def law_path_J1 (draw : (List Int)) (nodes : Int) (factor : Int) : Option (Int × (List Int) × (List (List Int))) :=
  grd (-4611686018427387904 ≤ nodes ∧ nodes < 4611686018427387904) <|
  grd (((rng 0 nodes)).length ≤ 16777216) <|
  (lcO (fun (i : Int) => (grd ((-18446744073709551616 < i ∧ i < 18446744073709551616) ∨ (-18446744073709551616 < factor ∧ factor < 18446744073709551616)) <|
  (atI draw (3 : Int)).bind fun e_v =>
  grd (0 < nodes) <|
  some (some (((i * factor) + e_v) % nodes)) : Option (Option Int))) (rng 0 nodes)).bind fun l =>
  bnd (l) fun at_v =>
  grd (-4611686018427387904 ≤ (nodes - (1 : Int)) ∧ (nodes - (1 : Int)) < 4611686018427387904) <|
  grd (((rng 0 (nodes - (1 : Int)))).length ≤ 16777216) <|
  (lcO (fun (i_1 : Int) => ((atI at_v i_1).bind fun e_v_1 =>
  (atI at_v (i_1 + (1 : Int))).bind fun e_v_2 =>
  some (some (sortBy (fun a b : Int => decide (a < b)) [e_v_1, e_v_2])) : Option (Option (List Int)))) (rng 0 (nodes - (1 : Int)))).bind fun l_1 =>
  bnd (l_1) fun edges =>
  (atI draw (4 : Int)).bind fun e_v_3 =>
  grd (-9223372036854775808 ≤ ((1 : Int) + e_v_3) ∧ ((1 : Int) + e_v_3) < 9223372036854775808 ∧ (edges).length * (((1 : Int) + e_v_3)).toNat ≤ sizeLine) <|
  some (nodes, at_v, (repL edges ((1 : Int) + e_v_3)))
def law_path (draw : (List Int)) : Option (Int × (List Int) × (List (List Int))) :=
  (atI draw (1 : Int)).bind fun e_v =>
  bnd (((9000 : Int) + e_v)) fun nodes =>
  (atI draw (2 : Int)).bind fun e_v_1 =>
  (atI [(1 : Int), (7 : Int), (11 : Int), (13 : Int)] e_v_1).bind fun e_v_2 =>
  bnd (e_v_2) fun factor =>
  grd (0 < factor) <|
  if (decide ((nodes % factor) = (0 : Int))) then
  (bnd ((1 : Int)) fun factor_1 =>
  law_path_J1 draw nodes factor_1)
  else
  (law_path_J1 draw nodes factor)
/-! _law_both_ways -/
def law_both_ways_b2 (at_v : (List Int)) (place : Int) (far : Int) (links : (List (Int × Int × Int))) (way : (Int × Int)) : Option ((List (Int × Int × Int))) :=
  grd ((-18446744073709551616 < far ∧ far < 18446744073709551616) ∨ (-18446744073709551616 < way.2 ∧ way.2 < 18446744073709551616)) <|
  bnd ((place + (far * way.2))) fun here =>
  if (decide ((0 : Int) ≤ (here + way.2)) && decide ((here + way.2) < ((at_v).length : Int))) then
  ((atI at_v here).bind fun e_v =>
  (atI at_v (here + way.2)).bind fun e_v_1 =>
  grd ((links).length < 16777216) <|
  bnd (links ++ [(e_v, (if (here + way.2) < here then (here + way.2) else here), e_v_1)]) fun links_1 =>
  some links_1)
  else
  (some links)
def law_both_ways_b1 (at_v : (List Int)) (place : Int) (ways : (List (Int × Int))) (links : (List (Int × Int × Int))) (far : Int) : Option ((List (Int × Int × Int))) :=
  ((foldO (fun (q : ((List (Int × Int × Int)))) (w : (Int × Int)) => law_both_ways_b2 at_v place far q w) (sortBy (ordT2 (fun a b : Int => decide (a < b)) (fun a b : Int => decide (a < b))) ways) links)).bind fun links_1 =>
  some links_1
def law_both_ways_J2 (at_v : (List Int)) (place : Int) (ways : (List (Int × Int))) : Option (List (Int × Int × Int)) :=
  bnd (([] : List (Int × Int × Int))) fun links =>
  grd (-4611686018427387904 ≤ ((at_v).length : Int) ∧ ((at_v).length : Int) < 4611686018427387904) <|
  ((foldO (fun (q : ((List (Int × Int × Int)))) (w : Int) => law_both_ways_b1 at_v place ways q w) (rng 0 ((at_v).length : Int)) links)).bind fun links_1 =>
  some links_1
def law_both_ways_J1 (at_v : (List Int)) (place : Int) (ways : (List (Int × Int))) : Option (List (Int × Int × Int)) :=
  if (decide (place < (((at_v).length : Int) - (1 : Int)))) then
  ((atI at_v (place + (1 : Int))).bind fun e_v =>
  grd ((ways).length < 16777216) <|
  bnd (ways ++ [(e_v, (1 : Int))]) fun ways_1 =>
  law_both_ways_J2 at_v place ways_1)
  else
  (law_both_ways_J2 at_v place ways)
def law_both_ways (at_v : (List Int)) (place : Int) : Option (List (Int × Int × Int)) :=
  bnd (([] : List (Int × Int))) fun ways =>
  if (decide ((0 : Int) < place)) then
  ((atI at_v (place - (1 : Int))).bind fun e_v =>
  grd ((ways).length < 16777216) <|
  bnd (ways ++ [(e_v, (-1 : Int))]) fun ways_1 =>
  law_both_ways_J1 at_v place ways_1)
  else
  (law_both_ways_J1 at_v place ways)
/-! law -/
def law_b1 (draw : (List Int)) (nodes : Int) (edges : (List (List Int))) (start : Int) : Option (Ctl Unit Bool) :=
  (law_links nodes edges start).bind fun v =>
  (atI draw (6 : Int)).bind fun e_v =>
  (law_asked nodes edges start v e_v).bind fun v_1 =>
  if (!v_1) then
  (some (.rt false))
  else
  (some (.nx ()))
def law_J1 (draw : (List Int)) (nodes : Int) (edges : (List (List Int))) (starts : (List Int)) : Option Bool :=
  grd ((starts).length + ((cutL starts none (some (1 : Int)))).length ≤ sizeLine) <|
  ((forC (ρ := Bool) (fun (q : Unit) (w : Int) => law_b1 draw nodes edges w) (starts ++ (cutL starts none (some (1 : Int)))) ())).bind fun c_v =>
  Ctl.on c_v (fun _ =>
  bnd (edges.reverse) fun opposite =>
  (atI starts (((starts).length : Int) - (1 : Int))).bind fun e_v =>
  bnd (e_v) fun last =>
  (law_links nodes opposite last).bind fun v =>
  (atI draw (6 : Int)).bind fun e_v_1 =>
  (law_asked nodes opposite last v ((3 : Int) - e_v_1)).bind fun v_1 =>
  if (!v_1) then
  (some false)
  else
  ((atI starts (0 : Int)).bind fun e_v_2 =>
  (atI starts (0 : Int)).bind fun e_v_3 =>
  (law_links nodes edges e_v_3).bind fun v_2 =>
  (atI draw (6 : Int)).bind fun e_v_4 =>
  (law_asked nodes edges e_v_2 v_2 e_v_4).bind fun v_3 =>
  some v_3)) (fun r => some r)
def law (script : (List Int)) : Option Bool :=
  (law_cell script (10 : Int)).bind fun v =>
  (law_digits v [(64 : Int), (3001 : Int), (4 : Int), (9000 : Int), (5 : Int), (12000 : Int), (4 : Int), (60 : Int), (60 : Int), (60 : Int)]).bind fun v_1 =>
  bnd (v_1) fun draw =>
  (atI draw (0 : Int)).bind fun e_v =>
  if (decide (e_v = (63 : Int))) then
  ((law_path draw).bind fun v_2 =>
  bnd (v_2) fun path =>
  (atI draw (5 : Int)).bind fun e_v_1 =>
  grd (0 < path.1) <|
  bnd ((e_v_1 % path.1)) fun place =>
  (atI path.2.1 place).bind fun e_v_2 =>
  (law_both_ways path.2.1 place).bind fun v_3 =>
  (atI draw (6 : Int)).bind fun e_v_3 =>
  (law_asked path.1 path.2.2 e_v_2 v_3 e_v_3).bind fun v_4 =>
  some v_4)
  else
  ((law_net script (0 : Int)).bind fun v_5 =>
  bnd (v_5) fun net =>
  bnd (net.1) fun nodes =>
  bnd (net.2) fun edges =>
  grd (-4611686018427387904 ≤ nodes ∧ nodes < 4611686018427387904) <|
  grd (((rng 0 nodes)).length ≤ 16777216) <|
  bnd ((rng 0 nodes)) fun starts =>
  if (decide ((8 : Int) < nodes)) then
  (grd (((rng 0 (3 : Int))).length ≤ 16777216) <|
  (lcO (fun (i_1 : Int) => ((atI draw ((7 : Int) + i_1)).bind fun e_v_4 =>
  grd (0 < nodes) <|
  some (some (e_v_4 % nodes)) : Option (Option Int))) (rng 0 (3 : Int))).bind fun l =>
  bnd (l) fun starts_1 =>
  law_J1 draw nodes edges starts_1)
  else
  (law_J1 draw nodes edges starts))
end K02

namespace K02
open PySem L2 PL
abbrev en_touching : (Int × (Bool × List (Bool × List Int))) → List D := fun a => [D.int a.1, (eQ (eQ D.int)) a.2]
abbrev fn_touching : (Int × (Bool × List (Bool × List Int))) → Option (List (List Int)) := fun a => touching a.1 a.2
abbrev rt_touching : (List (List Int)) → T := (sh (eL (eL D.int)))
def sp_touching : SpcP := mkSp en_touching fn_touching rt_touching
abbrev RP_touching : (List (List Int)) → T → En → Prop := fun r t _ => t = rt_touching r
abbrev enT_fresh_neighbours : (Int × (Bool × List (Bool × List Int)) × (List (List Int)) × (List Bool) × (List Bool)) → List T := fun a => [.s (D.int a.1), .s ((eQ (eQ D.int)) a.2.1), .s ((eL (eL D.int)) a.2.2.1), (oL (sh D.bl)) a.2.2.2.1, .s ((eL D.bl) a.2.2.2.2)]
abbrev fn_fresh_neighbours : (Int × (Bool × List (Bool × List Int)) × (List (List Int)) × (List Bool) × (List Bool)) → Option ((List (Int × Int)) × (List Bool)) := fun a => fresh_neighbours a.1 a.2.1 a.2.2.1 a.2.2.2.1 a.2.2.2.2
abbrev rt_fresh_neighbours : (List (Int × Int)) → T := (oL (sh (eT2 D.int D.int)))
abbrev out_fresh_neighbours : (Int × (Bool × List (Bool × List Int)) × (List (List Int)) × (List Bool) × (List Bool)) → (List Bool) → List T := fun a y => [.s (D.int a.1), .s ((eQ (eQ D.int)) a.2.1), .s ((eL (eL D.int)) a.2.2.1), (oL (sh D.bl)) y, .s ((eL D.bl) a.2.2.2.2)]
def sp_fresh_neighbours : Spc := mkSpM enT_fresh_neighbours fn_fresh_neighbours rt_fresh_neighbours out_fresh_neighbours
abbrev RP_fresh_neighbours (pw : V) : ((List (Int × Int)) × (List Bool)) → T → En → Prop := fun r t e => t = rt_fresh_neighbours r.1 ∧ e[3]? = some (.own (some pw) ((oL (sh D.bl)) r.2))
abbrev en_spread : (Int × (Bool × List (Bool × List Int)) × Int) → List D := fun a => [D.int a.1, (eQ (eQ D.int)) a.2.1, D.int a.2.2]
abbrev fn_spread : (Int × (Bool × List (Bool × List Int)) × Int) → Option (List (Int × Int × Int)) := fun a => spread a.1 a.2.1 a.2.2
abbrev rt_spread : (List (Int × Int × Int)) → T := (sh (eU (eT3 D.int D.int D.int)))
def sp_spread : SpcP := mkSp en_spread fn_spread rt_spread
abbrev RP_spread : (List (Int × Int × Int)) → T → En → Prop := fun r t _ => t = rt_spread r
abbrev en_law_whole : (Int) → List D := fun a => [D.int a]
abbrev fn_law_whole : (Int) → Option Bool := fun a => law_whole a
abbrev rt_law_whole : Bool → T := (sh D.bl)
def sp_law_whole : SpcP := mkSp en_law_whole fn_law_whole rt_law_whole
abbrev RP_law_whole : Bool → T → En → Prop := fun r t _ => t = rt_law_whole r
abbrev en_law_cell : ((List Int) × Int) → List D := fun a => [(eR D.int) a.1, D.int a.2]
abbrev fn_law_cell : ((List Int) × Int) → Option Int := fun a => law_cell a.1 a.2
abbrev rt_law_cell : Int → T := (sh D.int)
def sp_law_cell : SpcP := mkSp en_law_cell fn_law_cell rt_law_cell
abbrev RP_law_cell : Int → T → En → Prop := fun r t _ => t = rt_law_cell r
abbrev en_law_digits : (Int × (List Int)) → List D := fun a => [D.int a.1, (eL D.int) a.2]
abbrev fn_law_digits : (Int × (List Int)) → Option (List Int) := fun a => law_digits a.1 a.2
abbrev rt_law_digits : (List Int) → T := (oL (sh D.int))
def sp_law_digits : SpcP := mkSp en_law_digits fn_law_digits rt_law_digits
abbrev RP_law_digits : (List Int) → T → En → Prop := fun r t _ => t = rt_law_digits r
abbrev en_law_held : (Int × (List Int)) → List D := fun a => [D.int a.1, (eL D.int) a.2]
abbrev fn_law_held : (Int × (List Int)) → Option (List Int) := fun a => law_held a.1 a.2
abbrev rt_law_held : (List Int) → T := (oL (sh D.int))
def sp_law_held : SpcP := mkSp en_law_held fn_law_held rt_law_held
abbrev RP_law_held : (List Int) → T → En → Prop := fun r t _ => t = rt_law_held r
abbrev en_law_small_edge : (Int × Int × (List (List Int)) × Bool) → List D := fun a => [D.int a.1, D.int a.2.1, (eL (eL D.int)) a.2.2.1, D.bl a.2.2.2]
abbrev fn_law_small_edge : (Int × Int × (List (List Int)) × Bool) → Option (List Int) := fun a => law_small_edge a.1 a.2.1 a.2.2.1 a.2.2.2
abbrev rt_law_small_edge : (List Int) → T := (oL (sh D.int))
def sp_law_small_edge : SpcP := mkSp en_law_small_edge fn_law_small_edge rt_law_small_edge
abbrev RP_law_small_edge : (List Int) → T → En → Prop := fun r t _ => t = rt_law_small_edge r
abbrev en_law_wide_edges : (Int × Int) → List D := fun a => [D.int a.1, D.int a.2]
abbrev fn_law_wide_edges : (Int × Int) → Option (List (List Int)) := fun a => law_wide_edges a.1 a.2
abbrev rt_law_wide_edges : (List (List Int)) → T := (oL (sh (eL D.int)))
def sp_law_wide_edges : SpcP := mkSp en_law_wide_edges fn_law_wide_edges rt_law_wide_edges
abbrev RP_law_wide_edges : (List (List Int)) → T → En → Prop := fun r t _ => t = rt_law_wide_edges r
abbrev en_law_net : ((List Int) × Int) → List D := fun a => [(eR D.int) a.1, D.int a.2]
abbrev fn_law_net : ((List Int) × Int) → Option (Int × (List (List Int))) := fun a => law_net a.1 a.2
abbrev rt_law_net : (Int × (List (List Int))) → T := (sh (eS2 D.int (eL (eL D.int))))
def sp_law_net : SpcP := mkSp en_law_net fn_law_net rt_law_net
abbrev RP_law_net : (Int × (List (List Int))) → T → En → Prop := fun r t _ => t = rt_law_net r
abbrev en_law_form : ((List (List Int)) × Int) → List D := fun a => [(eL (eL D.int)) a.1, D.int a.2]
abbrev fn_law_form : ((List (List Int)) × Int) → Option (Bool × List (Bool × List Int)) := fun a => law_form a.1 a.2
abbrev rt_law_form : (Bool × List (Bool × List Int)) → T := (sh (eQ (eQ D.int)))
def sp_law_form : SpcP := mkSp en_law_form fn_law_form rt_law_form
abbrev RP_law_form : (Bool × List (Bool × List Int)) → T → En → Prop := fun r t _ => t = rt_law_form r
abbrev en_law_numbers : ((Int × Int × Int) × (Int × Int × Int)) → List D := fun a => [(eT3 D.int D.int D.int) a.1, (eT3 D.int D.int D.int) a.2]
abbrev fn_law_numbers : ((Int × Int × Int) × (Int × Int × Int)) → Option Bool := fun a => law_numbers a.1 a.2
abbrev rt_law_numbers : Bool → T := (sh D.bl)
def sp_law_numbers : SpcP := mkSp en_law_numbers fn_law_numbers rt_law_numbers
abbrev RP_law_numbers : Bool → T → En → Prop := fun r t _ => t = rt_law_numbers r
abbrev en_law_rows : (Int × (List (List Int)) × Int) → List D := fun a => [D.int a.1, (eL (eL D.int)) a.2.1, D.int a.2.2]
abbrev fn_law_rows : (Int × (List (List Int)) × Int) → Option (List (Option (List Int))) := fun a => law_rows a.1 a.2.1 a.2.2
abbrev rt_law_rows : (List (Option (List Int))) → T := (oL (sh (eO (eU D.int))))
def sp_law_rows : SpcP := mkSp en_law_rows fn_law_rows rt_law_rows
abbrev RP_law_rows : (List (Option (List Int))) → T → En → Prop := fun r t _ => t = rt_law_rows r
abbrev en_law_links : (Int × (List (List Int)) × Int) → List D := fun a => [D.int a.1, (eL (eL D.int)) a.2.1, D.int a.2.2]
abbrev fn_law_links : (Int × (List (List Int)) × Int) → Option (List (Int × Int × Int)) := fun a => law_links a.1 a.2.1 a.2.2
abbrev rt_law_links : (List (Int × Int × Int)) → T := (oL (sh (eT3 D.int D.int D.int)))
def sp_law_links : SpcP := mkSp en_law_links fn_law_links rt_law_links
abbrev RP_law_links : (List (Int × Int × Int)) → T → En → Prop := fun r t _ => t = rt_law_links r
abbrev en_law_asked : (Int × (List (List Int)) × Int × (List (Int × Int × Int)) × Int) → List D := fun a => [D.int a.1, (eL (eL D.int)) a.2.1, D.int a.2.2.1, (eL (eT3 D.int D.int D.int)) a.2.2.2.1, D.int a.2.2.2.2]
abbrev fn_law_asked : (Int × (List (List Int)) × Int × (List (Int × Int × Int)) × Int) → Option Bool := fun a => law_asked a.1 a.2.1 a.2.2.1 a.2.2.2.1 a.2.2.2.2
abbrev rt_law_asked : Bool → T := (sh D.bl)
def sp_law_asked : SpcP := mkSp en_law_asked fn_law_asked rt_law_asked
abbrev RP_law_asked : Bool → T → En → Prop := fun r t _ => t = rt_law_asked r
abbrev en_law_path : ((List Int)) → List D := fun a => [(eL D.int) a]
abbrev fn_law_path : ((List Int)) → Option (Int × (List Int) × (List (List Int))) := fun a => law_path a
abbrev rt_law_path : (Int × (List Int) × (List (List Int))) → T := (sh (eS3 D.int (eL D.int) (eL (eL D.int))))
def sp_law_path : SpcP := mkSp en_law_path fn_law_path rt_law_path
abbrev RP_law_path : (Int × (List Int) × (List (List Int))) → T → En → Prop := fun r t _ => t = rt_law_path r
abbrev en_law_both_ways : ((List Int) × Int) → List D := fun a => [(eL D.int) a.1, D.int a.2]
abbrev fn_law_both_ways : ((List Int) × Int) → Option (List (Int × Int × Int)) := fun a => law_both_ways a.1 a.2
abbrev rt_law_both_ways : (List (Int × Int × Int)) → T := (oL (sh (eT3 D.int D.int D.int)))
def sp_law_both_ways : SpcP := mkSp en_law_both_ways fn_law_both_ways rt_law_both_ways
abbrev RP_law_both_ways : (List (Int × Int × Int)) → T → En → Prop := fun r t _ => t = rt_law_both_ways r
abbrev en_law : ((List Int)) → List D := fun a => [(eR D.int) a]
abbrev fn_law : ((List Int)) → Option Bool := fun a => law a
abbrev rt_law : Bool → T := (sh D.bl)
def sp_law : SpcP := mkSp en_law fn_law rt_law
abbrev RP_law : Bool → T → En → Prop := fun r t _ => t = rt_law r
abbrev N_touching : List Str := ["nodes", "edges", "holders", "number", "node"]
/-! touching(nodes, edges); slots 0:nodes 1:edges 2:holders 3:number 4:node -/
def touching_4 : PSt := (pApp (pIx (pVar 2) (pVar 4)) (pVar 3))
def touching_3 : PSt := (pFor (pSeqI (pIx (pVar 1) (pVar 3))) (.nm 4) touching_4)
def touching_5 : PSt := pFrz 2 ((pRet (pLift (pVar 2))))
def touching_2 : PSt := pSeq (pFor (pRng1 (pCB gLen (pCons (pVar 1) pNil))) (.nm 3) touching_3) touching_5
def touching_1 : PSt := pSeq (pAsg 2 (pLift (pLc (pRng1 (pVar 0)) (.nm 4) pYes (pLst pNil) [4]))) touching_2
abbrev N_fresh_neighbours : List Str := ["node", "edges", "holders", "used", "reached", "found", "number", "other"]
/-! fresh_neighbours(node, edges, holders, used, reached); slots 0:node 1:edges 2:holders 3:used 4:reached 5:found 6:number 7:other -/
def fresh_neighbours_7 : PSt := (pSetI (pLift (pVar 6)) (pVar 5) (pVar 7))
def fresh_neighbours_6 : PSt := (pIf (pAndT (pNotT (pBl (pIx (pVar 4) (pVar 7)))) (p2T (gIn true) (pVar 7) (pVar 5))) fresh_neighbours_7 pNext)
def fresh_neighbours_5 : PSt := (pFor (pSeqI (pIx (pVar 1) (pVar 6))) (.nm 7) fresh_neighbours_6)
def fresh_neighbours_4 : PSt := pSeq (pSetI (pLift (pC (.bl true))) (pVar 3) (pVar 6)) fresh_neighbours_5
def fresh_neighbours_3 : PSt := (pIf (pNotT (pBl (pIx (pVar 3) (pVar 6)))) fresh_neighbours_4 pNext)
def fresh_neighbours_8 : PSt := (pRet (pLift (pLc (pSeqI (pSortDI (pVar 5))) (.nm 7) pYes (pTup (pCons (pVar 7) (pCons (pIx (pVar 5) (pVar 7)) pNil))) [7])))
def fresh_neighbours_2 : PSt := pSeq (pFor (pSeqI (pIx (pVar 2) (pVar 0))) (.nm 6) fresh_neighbours_3) fresh_neighbours_8
def fresh_neighbours_1 : PSt := pSeq (pAsg 5 (pLift pDNewK)) fresh_neighbours_2
abbrev N_spread : List Str := ["nodes", "edges", "start", "holders", "used", "reached", "order", "links", "at", "node", "other", "number", "edge"]
/-! spread(nodes, edges, start); slots 0:nodes 1:edges 2:start 3:holders 4:used 5:reached 6:order 7:links 8:at 9:node 10:other 11:number 12:edge -/
def spread_13 : PSt := (pApp (pVar 7) (pTup (pCons (pVar 9) (pCons (pVar 11) (pCons (pVar 10) pNil)))))
def spread_12 : PSt := pSeq (pApp (pVar 6) (pVar 10)) spread_13
def spread_11 : PSt := pSeq (pSetI (pLift (pC (.bl true))) (pVar 5) (pVar 10)) spread_12
def spread_14 : PSt := (pAsg 8 (pLift (pOp gAdd (pVar 8) (pC (.int 1)))))
def spread_10 : PSt := pSeq (pForM (pCallM (spS sp_fresh_neighbours) 4 (pCons (pVar 9) (pCons (pVar 1) (pCons (pVar 3) (pCons (pVar 4) (pCons (pVar 5) pNil)))))) (.tup [(.nm 10), (.nm 11)]) spread_11) spread_14
def spread_9 : PSt := pSeq (pAsg 9 (pLift (pIx (pVar 6) (pVar 8)))) spread_10
def spread_15 : PSt := pFrz 5 ((pRet (pLift (pC1 gTuple (pVar 7)))))
def spread_8 : PSt := pSeq (pWhile (p2T gLt (pVar 8) (pCB gLen (pCons (pVar 6) pNil))) spread_9) spread_15
def spread_7 : PSt := pSeq (pAsg 8 (pLift (pC (.int 0)))) spread_8
def spread_6 : PSt := pSeq (pAsg 7 (pLift (pLst pNil))) spread_7
def spread_5 : PSt := pSeq (pAsg 6 (pLift (pLst (pCons (pVar 2) pNil)))) spread_6
def spread_4 : PSt := pSeq (pSetI (pLift (pC (.bl true))) (pVar 5) (pVar 2)) spread_5
def spread_3 : PSt := pSeq (pAsg 5 (pLift (pLc (pRng1 (pVar 0)) (.nm 9) pYes (pC (.bl false)) [9]))) spread_4
def spread_2 : PSt := pSeq (pAsg 4 (pLift (pLc (pSeqI (pVar 1)) (.nm 12) pYes (pC (.bl false)) [12]))) spread_3
def spread_1 : PSt := pSeq (pAsg 3 (pLift (pCall (spS sp_touching.s) (pCons (pVar 0) (pCons (pVar 1) pNil))))) spread_2
abbrev N_law_whole : List Str := ["value"]
/-! _law_whole(value); slots 0:value -/
def law_whole_1 : PSt := (pRet (pLift (pAndV (pIsi "int" (pVar 0)) (pNotV (pIsi "bool" (pVar 0))))))
abbrev N_law_cell : List Str := ["script", "k", "seed", "cell"]
/-! _law_cell(script, k); slots 0:script 1:k 2:seed 3:cell -/
def law_cell_3 : PSt := (pRet (pLift (pCB gInt (pCons (pIx (pVar 0) (pVar 1)) pNil))))
def law_cell_4 : PSt := (pRet (pLift (pOp gAdd (pOp gMul (p2 gMod (pCB gInt (pCons (pIx (pVar 0) (pVar 1)) pNil)) (pC (.int 1000000007))) (pC (.int 64))) (pVar 1))))
def law_cell_2 : PSt := pSeq (pIf (p2T gGe (pIx (pVar 0) (pVar 1)) (p2 gPow (pC (.int 10)) (pC (.int 18)))) law_cell_3 pNext) law_cell_4
def law_cell_7 : PSt := (pAsg 2 (pLift (p2 gMod (pCB gInt (pCons (pOp gAdd (pOp gMul (pVar 2) (pC (.int 31))) (p2 gMod (pCB gInt (pCons (pVar 3) pNil)) (pC (.int 1000003)))) pNil)) (pC (.int 1000003)))))
def law_cell_8 : PSt := (pRet (pLift (p2 gMod (pCB gInt (pCons (pOp gMul (pOp gMul (pOp gAdd (pVar 2) (pC (.int 7))) (pOp gAdd (pVar 1) (pC (.int 3)))) (pC (.int 69621))) pNil)) (pC (.int 2147483647)))))
def law_cell_6 : PSt := pSeq (pFor (pSeqI (pVar 0)) (.nm 3) law_cell_7) law_cell_8
def law_cell_5 : PSt := pSeq (pAsg 2 (pLift (pC (.int 17)))) law_cell_6
def law_cell_1 : PSt := pSeq (pIf (p2T gLt (pVar 1) (pCB gLen (pCons (pVar 0) pNil))) law_cell_2 pNext) law_cell_5
abbrev N_law_digits : List Str := ["cell", "sizes", "row", "rest", "size", "seed", "k", "twice"]
/-! _law_digits(cell, sizes); slots 0:cell 1:sizes 2:row 3:rest 4:size 5:seed 6:k 7:twice -/
def law_digits_7 : PSt := (pAsg 3 (pLift (p2 gDiv (pCB gInt (pCons (pVar 3) pNil)) (pVar 4))))
def law_digits_6 : PSt := pSeq (pApp (pVar 2) (p2 gMod (pCB gInt (pCons (pVar 3) pNil)) (pVar 4))) law_digits_7
def law_digits_8 : PSt := (pRet (pMove 2))
def law_digits_5 : PSt := pSeq (pFor (pSeqI (pVar 1)) (.nm 4) law_digits_6) law_digits_8
def law_digits_4 : PSt := pSeq (pAsg 3 (pLift (p2 gSubI (pVar 3) (p2 gPow (pC (.int 10)) (pC (.int 18)))))) law_digits_5
def law_digits_13 : PSt := (pApp (pVar 2) (p2 gMod (p2 gDiv (pVar 7) (pC (.int 19))) (pIx (pVar 1) (pVar 6))))
def law_digits_12 : PSt := pSeq (pAsg 7 (pLift (p2 gMod (pCB gInt (pCons (pOp gMul (pVar 5) (pOp gAdd (p2 gDiv (pVar 5) (pC (.int 65537))) (pC (.int 3)))) pNil)) (pC (.int 2147483629))))) law_digits_13
def law_digits_11 : PSt := pSeq (pAsg 5 (pLift (p2 gMod (pCB gInt (pCons (pOp gAdd (pOp gAdd (pOp gMul (pVar 5) (pC (.int 48271))) (pOp gMul (pC (.int 974711)) (pVar 6))) (pC (.int 12345))) pNil)) (pC (.int 2147483647))))) law_digits_12
def law_digits_14 : PSt := (pRet (pMove 2))
def law_digits_10 : PSt := pSeq (pFor (pRng1 (pCB gLen (pCons (pVar 1) pNil))) (.nm 6) law_digits_11) law_digits_14
def law_digits_9 : PSt := pSeq (pAsg 5 (pLift (p2 gMod (pCB gInt (pCons (pVar 3) pNil)) (pC (.int 2147483629))))) law_digits_10
def law_digits_3 : PSt := pSeq (pIf (p2T gGe (pVar 3) (p2 gPow (pC (.int 10)) (pC (.int 18)))) law_digits_4 pNext) law_digits_9
def law_digits_2 : PSt := pSeq (pAsg 3 (pLift (pCB gInt (pCons (pVar 0) pNil)))) law_digits_3
def law_digits_1 : PSt := pSeq (pAsg 2 (pLift (pLst pNil))) law_digits_2
abbrev N_law_held : List Str := ["nodes", "chosen", "node"]
/-! _law_held(nodes, chosen); slots 0:nodes 1:chosen 2:node -/
def law_held_1 : PSt := (pRet (pLift (pLc (pRng1 (pVar 0)) (.nm 2) (p2T (gIn false) (pVar 2) (pVar 1)) (pVar 2) [2])))
abbrev N_law_small_edge : List Str := ["cell", "nodes", "edges", "loose", "powers", "row", "one", "two", "near", "node"]
/-! _law_small_edge(cell, nodes, edges, loose); slots 0:cell 1:nodes 2:edges 3:loose 4:powers 5:row 6:one 7:two 8:near 9:node -/
def law_small_edge_7 : PSt := (pAsg 8 (pLift (pCB gMax (pCons (pC (.int 0)) (pCons (p2 gSubI (p2 gSubI (pVar 6) (pC (.int 1))) (pIx (pVar 5) (pC (.int 3)))) pNil)))))
def law_small_edge_9 : PSt := (pRet (pLift (pLst (pCons (pVar 6) pNil))))
def law_small_edge_11 : PSt := (pRet (pLift (pC1 gList (pIx (pVar 2) (p2 gMod (pIx (pVar 5) (pC (.int 5))) (pCB gLen (pCons (pVar 2) pNil)))))))
def law_small_edge_13 : PSt := (pRet (pLift (pLc (pRng1 (pVar 1)) (.nm 9) (p2T gEq (p2 gMod (pCB gInt (pCons (p2 gDiv (pOp gAdd (pIx (pVar 5) (pC (.int 4))) (pC (.int 1))) (pIx (pVar 4) (pVar 9))) pNil)) (pC (.int 2))) (pC (.int 1))) (pVar 9) [9])))
def law_small_edge_15 : PSt := (pRet (pLift (pCall (spS sp_law_held.s) (pCons (pVar 1) (pCons (pLst (pCons (pVar 6) (pCons (pOp gAdd (pVar 6) (pC (.int 1))) (pCons (pOp gAdd (pVar 6) (pC (.int 2))) pNil)))) pNil)))))
def law_small_edge_17 : PSt := (pRet (pLift (pCall (spS sp_law_held.s) (pCons (pVar 1) (pCons (pLst (pCons (pVar 6) (pCons (pVar 7) pNil))) pNil)))))
def law_small_edge_18 : PSt := (pRet (pLift (pCall (spS sp_law_held.s) (pCons (pVar 1) (pCons (pLst (pCons (pVar 6) (pCons (pVar 8) pNil))) pNil)))))
def law_small_edge_16 : PSt := pSeq (pIf (pAndT (p2T gGt (pIx (pVar 5) (pC (.int 0))) (pC (.int 8))) (pBl (pVar 3))) law_small_edge_17 pNext) law_small_edge_18
def law_small_edge_14 : PSt := pSeq (pIf (p2T gEq (pIx (pVar 5) (pC (.int 0))) (pC (.int 3))) law_small_edge_15 pNext) law_small_edge_16
def law_small_edge_12 : PSt := pSeq (pIf (p2T gEq (pIx (pVar 5) (pC (.int 0))) (pC (.int 2))) law_small_edge_13 pNext) law_small_edge_14
def law_small_edge_10 : PSt := pSeq (pIf (pAndT (p2T gEq (pIx (pVar 5) (pC (.int 0))) (pC (.int 1))) (p2T gGt (pCB gLen (pCons (pVar 2) pNil)) (pC (.int 0)))) law_small_edge_11 pNext) law_small_edge_12
def law_small_edge_8 : PSt := pSeq (pIf (p2T gEq (pIx (pVar 5) (pC (.int 0))) (pC (.int 0))) law_small_edge_9 pNext) law_small_edge_10
def law_small_edge_6 : PSt := pSeq (pIf (p2T gGe (pVar 8) (pVar 1)) law_small_edge_7 pNext) law_small_edge_8
def law_small_edge_5 : PSt := pSeq (pAsg 8 (pLift (pOp gAdd (pOp gAdd (pVar 6) (pC (.int 1))) (pIx (pVar 5) (pC (.int 3)))))) law_small_edge_6
def law_small_edge_4 : PSt := pSeq (pAsg 7 (pLift (p2 gMod (pCB gInt (pCons (pOp gAdd (pOp gAdd (pVar 6) (pC (.int 1))) (p2 gMod (pIx (pVar 5) (pC (.int 2))) (pCB gMax (pCons (pC (.int 1)) (pCons (p2 gSubI (pVar 1) (pC (.int 1))) pNil))))) pNil)) (pVar 1)))) law_small_edge_5
def law_small_edge_3 : PSt := pSeq (pAsg 6 (pLift (pIx (pVar 5) (pC (.int 1))))) law_small_edge_4
def law_small_edge_2 : PSt := pSeq (pAsg 5 (pLift (pFz (pCall (spS sp_law_digits.s) (pCons (pVar 0) (pCons (pLst (pCons (pC (.int 12)) (pCons (pVar 1) (pCons (pVar 1) (pCons (pC (.int 2)) (pCons (p2 gSubI (pIx (pVar 4) (pVar 1)) (pC (.int 1))) (pCons (pC (.int 9)) pNil))))))) pNil)))))) law_small_edge_3
def law_small_edge_1 : PSt := pSeq (pAsg 4 (pLift (pFz (pLst (pCons (pC (.int 1)) (pCons (pC (.int 2)) (pCons (pC (.int 4)) (pCons (pC (.int 8)) (pCons (pC (.int 16)) (pCons (pC (.int 32)) (pCons (pC (.int 64)) (pCons (pC (.int 128)) (pCons (pC (.int 256)) pNil))))))))))))) law_small_edge_2
abbrev N_law_wide_edges : List Str := ["cell", "nodes", "row", "edges", "k", "one", "near", "two", "three", "chosen", "step"]
/-! _law_wide_edges(cell, nodes); slots 0:cell 1:nodes 2:row 3:edges 4:k 5:one 6:near 7:two 8:three 9:chosen 10:step -/
def law_wide_edges_11 : PSt := (pApp (pVar 3) (pFz (pCall (spS sp_law_held.s) (pCons (pVar 1) (pCons (pIx (pVar 9) (pIx (pVar 2) (pOp gMul (pC (.int 5)) (pVar 4)))) pNil)))))
def law_wide_edges_10 : PSt := pSeq (pApp (pVar 9) (pFz (pLc (pRng1 (pOp gAdd (pC (.int 5)) (pOp gMul (pC (.int 4)) (pIx (pVar 2) (pOp gAdd (pOp gMul (pC (.int 5)) (pVar 4)) (pC (.int 4))))))) (.nm 10) pYes (pOp gAdd (pVar 5) (pVar 10)) [10]))) law_wide_edges_11
def law_wide_edges_9 : PSt := pSeq (pApp (pVar 9) (pFz (pLst (pCons (pVar 5) (pCons (pVar 6) (pCons (pVar 7) (pCons (pVar 8) pNil))))))) law_wide_edges_10
def law_wide_edges_8 : PSt := pSeq (pAsg 9 (pLift (pLst (pCons (pFz (pLst (pCons (pVar 5) pNil))) (pCons (pFz (pLst (pCons (pVar 5) (pCons (pVar 6) pNil)))) (pCons (pFz (pLst (pCons (pVar 5) (pCons (pVar 6) pNil)))) (pCons (pFz (pLst (pCons (pVar 5) (pCons (pVar 6) pNil)))) (pCons (pFz (pLst (pCons (pVar 5) (pCons (pVar 7) pNil)))) (pCons (pFz (pLst (pCons (pVar 5) (pCons (pVar 6) (pCons (p2 gSubI (pVar 6) (pC (.int 1))) pNil))))) pNil))))))))) law_wide_edges_9
def law_wide_edges_7 : PSt := pSeq (pAsg 8 (pLift (p2 gMod (pCB gInt (pCons (pIx (pVar 2) (pOp gAdd (pOp gMul (pC (.int 5)) (pVar 4)) (pC (.int 3)))) pNil)) (pVar 1)))) law_wide_edges_8
def law_wide_edges_6 : PSt := pSeq (pAsg 7 (pLift (p2 gMod (pCB gInt (pCons (pIx (pVar 2) (pOp gAdd (pOp gMul (pC (.int 5)) (pVar 4)) (pC (.int 2)))) pNil)) (pVar 1)))) law_wide_edges_7
def law_wide_edges_5 : PSt := pSeq (pAsg 6 (pLift (pCB gMin (pCons (p2 gSubI (pVar 1) (pC (.int 1))) (pCons (pOp gAdd (pOp gAdd (pVar 5) (pC (.int 1))) (pIx (pVar 2) (pOp gAdd (pOp gMul (pC (.int 5)) (pVar 4)) (pC (.int 4))))) pNil))))) law_wide_edges_6
def law_wide_edges_4 : PSt := pSeq (pAsg 5 (pLift (p2 gMod (pCB gInt (pCons (pIx (pVar 2) (pOp gAdd (pOp gMul (pC (.int 5)) (pVar 4)) (pC (.int 1)))) pNil)) (pVar 1)))) law_wide_edges_5
def law_wide_edges_12 : PSt := (pRet (pMove 3))
def law_wide_edges_3 : PSt := pSeq (pFor (pRng1 (pC (.int 7))) (.nm 4) law_wide_edges_4) law_wide_edges_12
def law_wide_edges_2 : PSt := pSeq (pAsg 3 (pLift (pLst pNil))) law_wide_edges_3
def law_wide_edges_1 : PSt := pSeq (pAsg 2 (pLift (pFz (pCall (spS sp_law_digits.s) (pCons (pVar 0) (pCons (pOp gMul (pLst (pCons (pC (.int 8)) (pCons (pC (.int 60)) (pCons (pC (.int 60)) (pCons (pC (.int 60)) (pCons (pC (.int 5)) pNil)))))) (pC (.int 7))) pNil)))))) law_wide_edges_2
abbrev N_law_net : List Str := ["script", "at", "shape", "nodes", "many", "edges", "k", "order", "pair", "edge", "node"]
/-! _law_net(script, at); slots 0:script 1:at 2:shape 3:nodes 4:many 5:edges 6:k 7:order 8:pair 9:edge 10:node -/
def law_net_8 : PSt := pSeq (pAsg 5 (pLift (pOp gAdd (pVar 5) (pCall (spS sp_law_wide_edges.s) (pCons (pCall (spS sp_law_cell.s) (pCons (pVar 0) (pCons (pOp gAdd (pOp gAdd (pVar 1) (pC (.int 1))) (pVar 6)) pNil))) (pCons (pVar 3) pNil)))))) (pFrz 5 pNext)
def law_net_9 : PSt := pSeq (pAsg 5 (pLift (pSl (pVar 5) pNoPart (pPart (pOp gAdd (pC (.int 8)) (pIx (pVar 2) (pC (.int 4)))))))) (pFrz 5 pNext)
def law_net_7 : PSt := pSeq (pFor (pRng1 (pC (.int 9))) (.nm 6) law_net_8) law_net_9
def law_net_6 : PSt := pFrz 5 (pSeq (pAsg 3 (pLift (pOp gAdd (pC (.int 9)) (pIx (pVar 2) (pC (.int 3)))))) law_net_7)
def law_net_12 : PSt := (pApp (pVar 5) (pFz (pCall (spS sp_law_small_edge.s) (pCons (pCall (spS sp_law_cell.s) (pCons (pVar 0) (pCons (pOp gAdd (pOp gAdd (pVar 1) (pC (.int 1))) (pVar 6)) pNil))) (pCons (pVar 3) (pCons (pVar 5) (pCons (p2 gEq (pIx (pVar 2) (pC (.int 5))) (pC (.int 0))) pNil)))))))
def law_net_11 : PSt := pSeq (pFor (pRng1 (pVar 4)) (.nm 6) law_net_12) (pFrz 5 pNext)
def law_net_14 : PSt := (pRet (pLift (pFz (pLst (pCons (pVar 3) (pCons (pFz (pLc (pSeqI (pVar 5)) (.nm 9) pYes (pFz (pC1 gSortD (pLc (pSeqI (pVar 9)) (.nm 10) pYes (pIx (pVar 7) (pVar 10)) [10]))) [9])) pNil))))))
def law_net_13 : PSt := pSeq (pAsg 7 (pLift (pFz (pLc (pSeqI (pC1 gSortD (pLc (pRng1 (pVar 3)) (.nm 6) pYes (pTup (pCons (pIx (pVar 2) (pOp gAdd (pC (.int 6)) (pVar 6))) (pCons (pVar 6) pNil))) [6]))) (.nm 8) pYes (pIx (pVar 8) (pC (.int 1))) [8])))) law_net_14
def law_net_5 : PSt := pSeq (pIf (p2T gEq (pIx (pVar 2) (pC (.int 2))) (pC (.int 7))) law_net_6 law_net_11) law_net_13
def law_net_4 : PSt := pSeq (pAsg 5 (pLift (pLst pNil))) law_net_5
def law_net_3 : PSt := pSeq (pAsg 4 (pLift (pIx (pLst (pCons (pC (.int 9)) (pCons (pC (.int 8)) (pCons (pC (.int 7)) (pCons (pC (.int 6)) (pCons (pC (.int 5)) (pCons (pC (.int 4)) (pCons (pC (.int 3)) (pCons (pC (.int 2)) (pCons (pC (.int 1)) (pCons (pC (.int 0)) (pCons (pC (.int 9)) (pCons (pC (.int 8)) (pCons (pC (.int 7)) (pCons (pC (.int 9)) (pCons (pC (.int 8)) (pCons (pC (.int 6)) (pCons (pC (.int 9)) (pCons (pC (.int 8)) (pCons (pC (.int 7)) (pCons (pC (.int 9)) (pCons (pC (.int 8)) (pCons (pC (.int 7)) (pCons (pC (.int 9)) (pCons (pC (.int 9)) pNil))))))))))))))))))))))))) (pIx (pVar 2) (pC (.int 1)))))) law_net_4
def law_net_2 : PSt := pSeq (pAsg 3 (pLift (pIx (pLst (pCons (pC (.int 8)) (pCons (pC (.int 7)) (pCons (pC (.int 6)) (pCons (pC (.int 5)) (pCons (pC (.int 4)) (pCons (pC (.int 3)) (pCons (pC (.int 2)) (pCons (pC (.int 1)) (pCons (pC (.int 8)) (pCons (pC (.int 7)) (pCons (pC (.int 8)) (pCons (pC (.int 6)) (pCons (pC (.int 8)) (pCons (pC (.int 7)) (pCons (pC (.int 8)) (pCons (pC (.int 6)) pNil))))))))))))))))) (pIx (pVar 2) (pC (.int 0)))))) law_net_3
def law_net_1 : PSt := pSeq (pAsg 2 (pLift (pFz (pCall (spS sp_law_digits.s) (pCons (pCall (spS sp_law_cell.s) (pCons (pVar 0) (pCons (pVar 1) pNil))) (pCons (pOp gAdd (pLst (pCons (pC (.int 16)) (pCons (pC (.int 24)) (pCons (pC (.int 8)) (pCons (pC (.int 52)) (pCons (pC (.int 56)) (pCons (pC (.int 3)) pNil))))))) (pOp gMul (pLst (pCons (pC (.int 1000)) pNil)) (pC (.int 60)))) pNil)))))) law_net_2
abbrev N_law_form : List Str := ["rows", "form", "row"]
/-! _law_form(rows, form); slots 0:rows 1:form 2:row -/
def law_form_2 : PSt := (pRet (pLift (pFz (pLc (pSeqI (pVar 0)) (.nm 2) pYes (pFz (pC1 gList (pVar 2))) [2]))))
def law_form_4 : PSt := (pRet (pLift (pC1 gTuple (pLc (pSeqI (pVar 0)) (.nm 2) pYes (pC1 gTuple (pVar 2)) [2]))))
def law_form_6 : PSt := (pRet (pLift (pFz (pLc (pSeqI (pVar 0)) (.nm 2) pYes (pC1 gTuple (pVar 2)) [2]))))
def law_form_7 : PSt := (pRet (pLift (pC1 gTuple (pLc (pSeqI (pVar 0)) (.nm 2) pYes (pFz (pC1 gList (pVar 2))) [2]))))
def law_form_5 : PSt := pSeq (pIf (p2T gEq (pVar 1) (pC (.int 2))) law_form_6 pNext) law_form_7
def law_form_3 : PSt := pSeq (pIf (p2T gEq (pVar 1) (pC (.int 1))) law_form_4 pNext) law_form_5
def law_form_1 : PSt := pSeq (pIf (p2T gEq (pVar 1) (pC (.int 0))) law_form_2 pNext) law_form_3
abbrev N_law_numbers : List Str := ["told", "due", "k"]
/-! _law_numbers(told, due); slots 0:told 1:due 2:k -/
def law_numbers_2 : PSt := (pRet (pLift (pC (.bl false))))
def law_numbers_5 : PSt := (pRet (pLift (pC (.bl false))))
def law_numbers_4 : PSt := (pIf (pOrT (pNotT (pBl (pCall (spS sp_law_whole.s) (pCons (pIx (pVar 0) (pVar 2)) pNil)))) (p2T gNe (pIx (pVar 0) (pVar 2)) (pIx (pVar 1) (pVar 2)))) law_numbers_5 pNext)
def law_numbers_6 : PSt := (pRet (pLift (pC (.bl true))))
def law_numbers_3 : PSt := pSeq (pFor (pRng1 (pCB gLen (pCons (pVar 1) pNil))) (.nm 2) law_numbers_4) law_numbers_6
def law_numbers_1 : PSt := pSeq (pIf (pOrT (pNotT (pBl (pIsi "tuple" (pVar 0)))) (p2T gNe (pCB gLen (pCons (pVar 0) pNil)) (pCB gLen (pCons (pVar 1) pNil)))) law_numbers_2 pNext) law_numbers_3
abbrev N_law_rows : List Str := ["nodes", "edges", "start", "least", "turn", "grown", "edge", "near", "node", "row"]
/-! _law_rows(nodes, edges, start); slots 0:nodes 1:edges 2:start 3:least 4:turn 5:grown 6:edge 7:near 8:node 9:row -/
def law_rows_12 : PSt := (pAsg 5 (pLift (pOp gAdd (pVar 5) (pC (.int 1)))))
def law_rows_11 : PSt := pSeq (pSetI (pLift (pVar 9)) (pVar 3) (pVar 8)) law_rows_12
def law_rows_10 : PSt := (pIf (pOrT (p2T (gIs false) (pIx (pVar 3) (pVar 8)) (pC .non)) (pAndT (p2T gEq (pCB gLen (pCons (pIx (pVar 3) (pVar 8)) pNil)) (pOp gAdd (pVar 4) (pC (.int 2)))) (p2T (gOrd false false) (pVar 9) (pIx (pVar 3) (pVar 8))))) law_rows_11 pNext)
def law_rows_9 : PSt := pSeq (pAsg 9 (pLift (pOp gAdd (pC1 gMinD (pVar 7)) (pTup (pCons (pVar 8) pNil))))) law_rows_10
def law_rows_8 : PSt := (pFor (pSeqI (pVar 6)) (.nm 8) law_rows_9)
def law_rows_7 : PSt := (pIf (p2T gGt (pCB gLen (pCons (pVar 7) pNil)) (pC (.int 0))) law_rows_8 pNext)
def law_rows_6 : PSt := pSeq (pAsgF 7 (pLift (pLc (pSeqI (pLc (pSeqI (pVar 6)) (.nm 8) pYes (pIx (pVar 3) (pVar 8)) [8])) (.nm 9) (pAndT (p2T (gIs true) (pVar 9) (pC .non)) (p2T gEq (pCB gLen (pCons (pVar 9) pNil)) (pOp gAdd (pVar 4) (pC (.int 1))))) (pVar 9) [9]))) law_rows_7
def law_rows_14 : PSt := pBreak
def law_rows_13 : PSt := (pIf (p2T gEq (pVar 5) (pC (.int 0))) law_rows_14 pNext)
def law_rows_5 : PSt := pSeq (pFor (pSeqI (pVar 1)) (.nm 6) law_rows_6) law_rows_13
def law_rows_4 : PSt := pSeq (pAsg 5 (pLift (pC (.int 0)))) law_rows_5
def law_rows_15 : PSt := (pRet (pMove 3))
def law_rows_3 : PSt := pSeq (pFor (pRng1 (pVar 0)) (.nm 4) law_rows_4) law_rows_15
def law_rows_2 : PSt := pSeq (pSetI (pLift (pTup (pCons (pVar 2) pNil))) (pVar 3) (pVar 2)) law_rows_3
def law_rows_1 : PSt := pSeq (pAsg 3 (pLift (pLc (pRng1 (pVar 0)) (.nm 8) pYes (pC .non) [8]))) law_rows_2
abbrev N_law_links : List Str := ["nodes", "edges", "start", "least", "links", "pair", "one", "two", "both", "row", "number"]
/-! _law_links(nodes, edges, start); slots 0:nodes 1:edges 2:start 3:least 4:links 5:pair 6:one 7:two 8:both 9:row 10:number -/
def law_links_7 : PSt := (pApp (pVar 4) (pTup (pCons (pVar 6) (pCons (pIx (pVar 8) (pC (.int 0))) (pCons (pVar 7) pNil)))))
def law_links_6 : PSt := pSeq (pAsgF 8 (pLift (pLc (pRng1 (pCB gLen (pCons (pVar 1) pNil))) (.nm 10) (pAndT (p2T (gIn false) (pVar 6) (pIx (pVar 1) (pVar 10))) (p2T (gIn false) (pVar 7) (pIx (pVar 1) (pVar 10)))) (pVar 10) [10]))) law_links_7
def law_links_5 : PSt := pSeq (pAsg 7 (pLift (pIx (pIx (pVar 5) (pC (.int 1))) (p2 gSubI (pIx (pVar 5) (pC (.int 0))) (pC (.int 1)))))) law_links_6
def law_links_4 : PSt := pSeq (pAsg 6 (pLift (pIx (pIx (pVar 5) (pC (.int 1))) (p2 gSubI (pIx (pVar 5) (pC (.int 0))) (pC (.int 2)))))) law_links_5
def law_links_8 : PSt := (pRet (pMove 4))
def law_links_3 : PSt := pSeq (pFor (pSeqI (pC1 gSortD (pLc (pSeqI (pVar 3)) (.nm 9) (pAndT (p2T (gIs true) (pVar 9) (pC .non)) (p2T gGt (pCB gLen (pCons (pVar 9) pNil)) (pC (.int 1)))) (pTup (pCons (pCB gLen (pCons (pVar 9) pNil)) (pCons (pVar 9) pNil))) [9]))) (.nm 5) law_links_4) law_links_8
def law_links_2 : PSt := pSeq (pAsg 4 (pLift (pLst pNil))) law_links_3
def law_links_1 : PSt := pSeq (pAsg 3 (pLift (pFz (pCall (spS sp_law_rows.s) (pCons (pVar 0) (pCons (pVar 1) (pCons (pVar 2) pNil))))))) law_links_2
abbrev N_law_asked : List Str := ["nodes", "edges", "start", "links", "form", "handed", "told", "k"]
/-! _law_asked(nodes, edges, start, links, form); slots 0:nodes 1:edges 2:start 3:links 4:form 5:handed 6:told 7:k -/
def law_asked_4 : PSt := (pRet (pLift (pC (.bl false))))
def law_asked_7 : PSt := (pRet (pLift (pC (.bl false))))
def law_asked_6 : PSt := (pIf (pNotT (pBl (pCall (spS sp_law_numbers.s) (pCons (pIx (pVar 6) (pVar 7)) (pCons (pIx (pVar 3) (pVar 7)) pNil))))) law_asked_7 pNext)
def law_asked_8 : PSt := (pRet (pLift (pC (.bl true))))
def law_asked_5 : PSt := pSeq (pFor (pRng1 (pCB gLen (pCons (pVar 3) pNil))) (.nm 7) law_asked_6) law_asked_8
def law_asked_3 : PSt := pSeq (pIf (pOrT (p2T gNe (pVar 5) (pCall (spS sp_law_form.s) (pCons (pVar 1) (pCons (pVar 4) pNil)))) (pOrT (pNotT (pBl (pIsi "tuple" (pVar 6)))) (p2T gNe (pCB gLen (pCons (pVar 6) pNil)) (pCB gLen (pCons (pVar 3) pNil))))) law_asked_4 pNext) law_asked_5
def law_asked_2 : PSt := pSeq (pAsg 6 (pLift (pCall (spS sp_spread.s) (pCons (pVar 0) (pCons (pVar 5) (pCons (pVar 2) pNil)))))) law_asked_3
def law_asked_1 : PSt := pSeq (pAsg 5 (pLift (pCall (spS sp_law_form.s) (pCons (pVar 1) (pCons (pVar 4) pNil))))) law_asked_2
abbrev N_law_path : List Str := ["draw", "nodes", "factor", "at", "edges", "place"]
/-! _law_path(draw); slots 0:draw 1:nodes 2:factor 3:at 4:edges 5:place -/
def law_path_4 : PSt := (pAsg 2 (pLift (pC (.int 1))))
def law_path_7 : PSt := (pRet (pLift (pFz (pLst (pCons (pVar 1) (pCons (pVar 3) (pCons (pFz (pOp gMul (pVar 4) (pOp gAdd (pC (.int 1)) (pIx (pVar 0) (pC (.int 4)))))) pNil)))))))
def law_path_6 : PSt := pSeq (pAsgF 4 (pLift (pLc (pRng1 (p2 gSubI (pVar 1) (pC (.int 1)))) (.nm 5) pYes (pFz (pC1 gSortD (pLst (pCons (pIx (pVar 3) (pVar 5)) (pCons (pIx (pVar 3) (pOp gAdd (pVar 5) (pC (.int 1)))) pNil))))) [5]))) law_path_7
def law_path_5 : PSt := pSeq (pAsg 3 (pLift (pFz (pLc (pRng1 (pVar 1)) (.nm 5) pYes (p2 gMod (pCB gInt (pCons (pOp gAdd (pOp gMul (pVar 5) (pVar 2)) (pIx (pVar 0) (pC (.int 3)))) pNil)) (pVar 1)) [5])))) law_path_6
def law_path_3 : PSt := pSeq (pIf (p2T gEq (p2 gMod (pCB gInt (pCons (pVar 1) pNil)) (pVar 2)) (pC (.int 0))) law_path_4 pNext) law_path_5
def law_path_2 : PSt := pSeq (pAsg 2 (pLift (pIx (pLst (pCons (pC (.int 1)) (pCons (pC (.int 7)) (pCons (pC (.int 11)) (pCons (pC (.int 13)) pNil))))) (pIx (pVar 0) (pC (.int 2)))))) law_path_3
def law_path_1 : PSt := pSeq (pAsg 1 (pLift (pOp gAdd (pC (.int 9000)) (pIx (pVar 0) (pC (.int 1)))))) law_path_2
abbrev N_law_both_ways : List Str := ["at", "place", "ways", "links", "far", "way", "here"]
/-! _law_both_ways(at, place); slots 0:at 1:place 2:ways 3:links 4:far 5:way 6:here -/
def law_both_ways_3 : PSt := (pApp (pVar 2) (pTup (pCons (pIx (pVar 0) (p2 gSubI (pVar 1) (pC (.int 1)))) (pCons (pNeg (pC (.int 1))) pNil))))
def law_both_ways_5 : PSt := (pApp (pVar 2) (pTup (pCons (pIx (pVar 0) (pOp gAdd (pVar 1) (pC (.int 1)))) (pCons (pC (.int 1)) pNil))))
def law_both_ways_11 : PSt := (pApp (pVar 3) (pTup (pCons (pIx (pVar 0) (pVar 6)) (pCons (pCB gMin (pCons (pVar 6) (pCons (pOp gAdd (pVar 6) (pIx (pVar 5) (pC (.int 1)))) pNil))) (pCons (pIx (pVar 0) (pOp gAdd (pVar 6) (pIx (pVar 5) (pC (.int 1))))) pNil)))))
def law_both_ways_10 : PSt := (pIf (pChnT (fun i j => decide (i ≤ j)) (fun i j => decide (i < j)) (pC (.int 0)) (pOp gAdd (pVar 6) (pIx (pVar 5) (pC (.int 1)))) (pCB gLen (pCons (pVar 0) pNil))) law_both_ways_11 pNext)
def law_both_ways_9 : PSt := pSeq (pAsg 6 (pLift (pOp gAdd (pVar 1) (pOp gMul (pVar 4) (pIx (pVar 5) (pC (.int 1))))))) law_both_ways_10
def law_both_ways_8 : PSt := (pFor (pSeqI (pC1 gSortD (pVar 2))) (.nm 5) law_both_ways_9)
def law_both_ways_12 : PSt := (pRet (pMove 3))
def law_both_ways_7 : PSt := pSeq (pFor (pRng1 (pCB gLen (pCons (pVar 0) pNil))) (.nm 4) law_both_ways_8) law_both_ways_12
def law_both_ways_6 : PSt := pSeq (pAsg 3 (pLift (pLst pNil))) law_both_ways_7
def law_both_ways_4 : PSt := pSeq (pIf (p2T gLt (pVar 1) (p2 gSubI (pCB gLen (pCons (pVar 0) pNil)) (pC (.int 1)))) law_both_ways_5 pNext) law_both_ways_6
def law_both_ways_2 : PSt := pSeq (pIf (p2T gGt (pVar 1) (pC (.int 0))) law_both_ways_3 pNext) law_both_ways_4
def law_both_ways_1 : PSt := pSeq (pAsg 2 (pLift (pLst pNil))) law_both_ways_2
abbrev N_law : List Str := ["script", "draw", "path", "place", "net", "nodes", "edges", "starts", "start", "opposite", "last", "node", "k"]
/-! law(script); slots 0:script 1:draw 2:path 3:place 4:net 5:nodes 6:edges 7:starts 8:start 9:opposite 10:last 11:node 12:k -/
def law_5 : PSt := (pRet (pLift (pCall (spS sp_law_asked.s) (pCons (pIx (pVar 2) (pC (.int 0))) (pCons (pIx (pVar 2) (pC (.int 2))) (pCons (pIx (pIx (pVar 2) (pC (.int 1))) (pVar 3)) (pCons (pCall (spS sp_law_both_ways.s) (pCons (pIx (pVar 2) (pC (.int 1))) (pCons (pVar 3) pNil))) (pCons (pIx (pVar 1) (pC (.int 6))) pNil))))))))
def law_4 : PSt := pSeq (pAsg 3 (pLift (p2 gMod (pCB gInt (pCons (pIx (pVar 1) (pC (.int 5))) pNil)) (pIx (pVar 2) (pC (.int 0)))))) law_5
def law_3 : PSt := pSeq (pAsg 2 (pLift (pCall (spS sp_law_path.s) (pCons (pVar 1) pNil)))) law_4
def law_11 : PSt := (pAsgF 7 (pLift (pLc (pRng1 (pC (.int 3))) (.nm 12) pYes (p2 gMod (pCB gInt (pCons (pIx (pVar 1) (pOp gAdd (pC (.int 7)) (pVar 12))) pNil)) (pVar 5)) [12])))
def law_14 : PSt := (pRet (pLift (pC (.bl false))))
def law_13 : PSt := (pIf (pNotT (pBl (pCall (spS sp_law_asked.s) (pCons (pVar 5) (pCons (pVar 6) (pCons (pVar 8) (pCons (pCall (spS sp_law_links.s) (pCons (pVar 5) (pCons (pVar 6) (pCons (pVar 8) pNil)))) (pCons (pIx (pVar 1) (pC (.int 6))) pNil)))))))) law_14 pNext)
def law_18 : PSt := (pRet (pLift (pC (.bl false))))
def law_19 : PSt := (pRet (pLift (pCall (spS sp_law_asked.s) (pCons (pVar 5) (pCons (pVar 6) (pCons (pIx (pVar 7) (pC (.int 0))) (pCons (pCall (spS sp_law_links.s) (pCons (pVar 5) (pCons (pVar 6) (pCons (pIx (pVar 7) (pC (.int 0))) pNil)))) (pCons (pIx (pVar 1) (pC (.int 6))) pNil))))))))
def law_17 : PSt := pSeq (pIf (pNotT (pBl (pCall (spS sp_law_asked.s) (pCons (pVar 5) (pCons (pVar 9) (pCons (pVar 10) (pCons (pCall (spS sp_law_links.s) (pCons (pVar 5) (pCons (pVar 9) (pCons (pVar 10) pNil)))) (pCons (p2 gSubI (pC (.int 3)) (pIx (pVar 1) (pC (.int 6)))) pNil)))))))) law_18 pNext) law_19
def law_16 : PSt := pSeq (pAsg 10 (pLift (pIx (pVar 7) (p2 gSubI (pCB gLen (pCons (pVar 7) pNil)) (pC (.int 1)))))) law_17
def law_15 : PSt := pSeq (pAsg 9 (pLift (pFz (pRev (pVar 6))))) law_16
def law_12 : PSt := pSeq (pFor (pSeqI (pOp gAdd (pVar 7) (pSl (pVar 7) pNoPart (pPart (pC (.int 1)))))) (.nm 8) law_13) law_15
def law_10 : PSt := pSeq (pIf (p2T gGt (pVar 5) (pC (.int 8))) law_11 pNext) law_12
def law_9 : PSt := pSeq (pAsgF 7 (pLift (pLc (pRng1 (pVar 5)) (.nm 11) pYes (pVar 11) [11]))) law_10
def law_8 : PSt := pSeq (pAsg 6 (pLift (pIx (pVar 4) (pC (.int 1))))) law_9
def law_7 : PSt := pSeq (pAsg 5 (pLift (pIx (pVar 4) (pC (.int 0))))) law_8
def law_6 : PSt := pSeq (pAsg 4 (pLift (pCall (spS sp_law_net.s) (pCons (pVar 0) (pCons (pC (.int 0)) pNil))))) law_7
def law_2 : PSt := pSeq (pIf (p2T gEq (pIx (pVar 1) (pC (.int 0))) (pC (.int 63))) law_3 pNext) law_6
def law_1 : PSt := pSeq (pAsg 1 (pLift (pFz (pCall (spS sp_law_digits.s) (pCons (pCall (spS sp_law_cell.s) (pCons (pVar 0) (pCons (pC (.int 10)) pNil))) (pCons (pLst (pCons (pC (.int 64)) (pCons (pC (.int 3001)) (pCons (pC (.int 4)) (pCons (pC (.int 9000)) (pCons (pC (.int 5)) (pCons (pC (.int 12000)) (pCons (pC (.int 4)) (pCons (pC (.int 60)) (pCons (pC (.int 60)) (pCons (pC (.int 60)) pNil))))))))))) pNil)))))) law_2
end K02

namespace K02
open PySem L2 PL
/-! touching -/
abbrev Φ_touching_b1 (edges : (Bool × List (Bool × List Int))) : ((List (List Int))) → En → Prop := fun q e => ∃ j0 j3 j4, Jk j0 ∧ Jk j3 ∧ Jk j4 ∧ e = [j0, .own none (sh (eQ (eQ D.int)) edges), .own none (oL (oL (sh D.int)) q), j3, j4]
abbrev Φ_touching_b2 (edges : (Bool × List (Bool × List Int))) (number : Int) : ((List (List Int))) → En → Prop := fun q e => ∃ j0 j4, Jk j0 ∧ Jk j4 ∧ e = [j0, .own none (sh (eQ (eQ D.int)) edges), .own none (oL (oL (sh D.int)) q), .own none (sh D.int number), j4]
theorem w_touching_b2 (edges : (Bool × List (Bool × List Int))) (number : Int) (holders : (List (List Int))) (node : Int) (j0 : Cell) (hj0 : Jk j0) {pd : PEnds} {z : ((List (List Int)))} (hp : FinO (Φ_touching_b2 edges number) pd z) (h : touching_b2 number holders node = some z) :
  touching_4 pd [j0, .own none (sh (eQ (eQ D.int)) edges), .own none (oL (oL (sh D.int)) holders), .own none (sh D.int number), .own none (sh D.int node)] :=
  let ⟨l, h1, h⟩ := bindE h;   let ⟨h2, h⟩ := grdE h;   let ⟨holders_1, h3, h⟩ := bndE h;   s_app1 (g2 := (sh D.int)) rfl (ev_s rfl) h1 h2 (ev_s rfl) rfl h3 (hp.nx (someE h) ⟨_, _, hj0, jk_own, rfl⟩)
theorem w_touching_b1 (edges : (Bool × List (Bool × List Int))) (holders : (List (List Int))) (number : Int) (j0 j4 : Cell) (hj0 : Jk j0) (hj4 : Jk j4) {pd : PEnds} {z : ((List (List Int)))} (hp : FinO (Φ_touching_b1 edges) pd z) (h : touching_b1 edges holders number = some z) :
  touching_3 pd [j0, .own none (sh (eQ (eQ D.int)) edges), .own none (oL (oL (sh D.int)) holders), .own none (sh D.int number), j4] :=
  let ⟨e_v, h1, h⟩ := bindE h;   let ⟨holders_1, h2, h⟩ := bindE h;   w_forO (Φ_touching_b2 edges number) holders (ei_seq (f := D.int) issq_q (ev_ix (f := (eQ D.int)) issq_q (ev_s rfl) (ev_s rfl) h1)) h2 ⟨_, _, hj0, hj4, rfl⟩ (by rintro w q _ z pd' ⟨j0, j4, hj0, hj4, rfl⟩ h hp; exact ⟨_, (st_nm rfl hj4), w_touching_b2 edges number q w j0 hj0 hp h⟩) (by rintro _ ⟨j0, j4, hj0, hj4, rfl⟩; exact hp.nx (someE h) ⟨_, _, _, hj0, jk_own, hj4, rfl⟩)
theorem w_touching (nodes : Int) (edges : (Bool × List (Bool × List Int))) {pd : PEnds} {z : (List (List Int))} (hp : FinR rt_touching pd z) (h : touching nodes edges = some z) :
  touching_1 pd [.own none (sh D.int nodes), .own none (sh (eQ (eQ D.int)) edges), .un, .un, .un] :=
  sq (let ⟨h1, h⟩ := grdE h;   let ⟨h2, h⟩ := grdE h;   let ⟨holders, h3, h⟩ := bndE h;   s_asg (ev_lcM (f := D.int) (y := fun (i : Int) => ([] : List Int)) (g := (oL (sh D.int))) (ei_rng1 (ev_s rfl) h1) (.inr h2) (fun i => ⟨_, (st_nm rfl jk_un), (ev_lst (ts := List.map (sh D.int) ([] : List Int)) ea_nil rfl (Nat.le_of_ble_eq_true rfl))⟩)) (congrArg (oL (oL (sh D.int))) h3) rfl jk_un (nx_ touching_2 (sq (let ⟨h4, h⟩ := grdE h;   let ⟨holders_1, h5, h⟩ := bindE h;   w_forO (Φ_touching_b1 edges) holders (ei_rng1 (ev_len issq_q (ev_s rfl) rd_s (List.length_map _)) h4) h5 ⟨_, _, _, jk_own, jk_un, jk_un, rfl⟩ (by rintro w q _ z pd' ⟨j0, j3, j4, hj0, hj3, hj4, rfl⟩ h hp; exact ⟨_, (st_nm rfl hj3), w_touching_b1 edges q w j0 j4 hj0 hj4 hp h⟩) (by rintro _ ⟨j0, j3, j4, hj0, hj3, hj4, rfl⟩; exact nx_ touching_5 (s_frz (k := 2) rfl ((er_oL (er_oL er_sh)) _) (s_ret (ev_s rfl) (congrArg rt_touching (someE h)) (hp.rt rfl))))))))
theorem len_touching : ∀ ds a, sp_touching.pre ds a → ds.length = 2 := fun ds a ⟨h, _⟩ => by rw [h]; rfl
theorem pu_touching (ds a) (pre : sp_touching.pre ds a) : touching_1 { nx := fun _ => sp_touching.post a (.s .non), rt := fun t _ => sp_touching.post a t } (startP N_touching ds) := by
  obtain ⟨e, h⟩ := pre
  subst e
  obtain ⟨r, hr⟩ := Option.isSome_iff_exists.mp h
  exact w_touching a.1 a.2 (fin_R (fn := fn_touching) (enc := en_touching) (RT := rt_touching) (a := a) hr) hr
/-! fresh_neighbours -/
abbrev Φ_fresh_neighbours_b1 (edges : (Bool × List (Bool × List Int))) (reached : (List Bool)) (pw : V) : ((List Bool) × (List (Int × Int))) → En → Prop := fun q e => ∃ j0 j2 j6 j7, Jk j0 ∧ Jk j2 ∧ Jk j6 ∧ Jk j7 ∧ e = [j0, .own none (sh (eQ (eQ D.int)) edges), j2, .own (some pw) (oL (sh D.bl) q.1), .own none (sh (eL D.bl) reached), .own none (oDK kI (sh D.int) q.2), j6, j7]
abbrev Φ_fresh_neighbours_b2 (edges : (Bool × List (Bool × List Int))) (used : (List Bool)) (reached : (List Bool)) (number : Int) (pw : V) : ((List (Int × Int))) → En → Prop := fun q e => ∃ j0 j2 j7, Jk j0 ∧ Jk j2 ∧ Jk j7 ∧ e = [j0, .own none (sh (eQ (eQ D.int)) edges), j2, .own (some pw) (oL (sh D.bl) used), .own none (sh (eL D.bl) reached), .own none (oDK kI (sh D.int) q), .own none (sh D.int number), j7]
theorem w_fresh_neighbours_b2 (edges : (Bool × List (Bool × List Int))) (used : (List Bool)) (reached : (List Bool)) (number : Int) (found : (List (Int × Int))) (other : Int) (pw : V) (j0 j2 : Cell) (hj0 : Jk j0) (hj2 : Jk j2) {pd : PEnds} {z : ((List (Int × Int)))} (hp : FinO (Φ_fresh_neighbours_b2 edges used reached number pw) pd z) (h : fresh_neighbours_b2 reached number found other = some z) :
  fresh_neighbours_6 pd [j0, .own none (sh (eQ (eQ D.int)) edges), j2, .own (some pw) (oL (sh D.bl) used), .own none (sh (eL D.bl) reached), .own none (oDK kI (sh D.int) found), .own none (sh D.int number), .own none (sh D.int other)] :=
  let ⟨e_v, h1, h⟩ := bindE h;   s_if (et_and (et_not (et_bl (ev_ix (f := D.bl) issq_l (ev_s rfl) (ev_s rfl) h1))) (et_ninDK (kf := kI) (f := D.int) kp_int (ev_s rfl) (ev_b rfl) (rd_b (look_own rfl) ((er_oDK er_sh) _)))) (fun h4 => let h := iteT h4 h;   let ⟨h2, h⟩ := grdE h;   let ⟨found_1, h3, h⟩ := bndE h;   s_setDK (kf := kI) (g := (sh D.int)) kp_int rfl (ev_s rfl) rfl (ev_s rfl) h2 h3 (hp.nx (someE h) ⟨_, _, _, hj0, hj2, jk_own, rfl⟩)) (fun h4 => let h := iteF h4 h;   s_nx (hp.nx (someE h) ⟨_, _, _, hj0, hj2, jk_own, rfl⟩))
theorem w_fresh_neighbours_b1 (edges : (Bool × List (Bool × List Int))) (reached : (List Bool)) (used : (List Bool)) (found : (List (Int × Int))) (number : Int) (pw : V) (j0 j2 j7 : Cell) (hj0 : Jk j0) (hj2 : Jk j2) (hj7 : Jk j7) {pd : PEnds} {z : ((List Bool) × (List (Int × Int)))} (hp : FinO (Φ_fresh_neighbours_b1 edges reached pw) pd z) (h : fresh_neighbours_b1 edges reached used found number = some z) :
  fresh_neighbours_3 pd [j0, .own none (sh (eQ (eQ D.int)) edges), j2, .own (some pw) (oL (sh D.bl) used), .own none (sh (eL D.bl) reached), .own none (oDK kI (sh D.int) found), .own none (sh D.int number), j7] :=
  let ⟨e_v, h1, h⟩ := bindE h;   s_if (et_not (et_bl (ev_ixB (f := D.bl) (ev_b rfl) (look_own rfl) (ev_s rfl) h1))) (fun h6 => let h := iteT h6 h;   sq (let ⟨old, h2, h⟩ := bindE h;   let ⟨used_1, h3, h⟩ := bndE h;   s_set (g := (sh D.bl)) rfl ev_c rfl (ev_s rfl) h2 h3 (nx_ fresh_neighbours_5 (let ⟨e_v_1, h4, h⟩ := bindE h;   let ⟨found_1, h5, h⟩ := bindE h;   w_forO (Φ_fresh_neighbours_b2 edges used_1 reached number pw) found (ei_seq (f := D.int) issq_q (ev_ix (f := (eQ D.int)) issq_q (ev_s rfl) (ev_s rfl) h4)) h5 ⟨_, _, _, hj0, hj2, hj7, rfl⟩ (by rintro w q _ z pd' ⟨j0, j2, j7, hj0, hj2, hj7, rfl⟩ h hp; exact ⟨_, (st_nm rfl hj7), w_fresh_neighbours_b2 edges used_1 reached number q w pw j0 j2 hj0 hj2 hp h⟩) (by rintro _ ⟨j0, j2, j7, hj0, hj2, hj7, rfl⟩; exact hp.nx (someE h) ⟨_, _, _, _, hj0, hj2, jk_own, hj7, rfl⟩))))) (fun h6 => let h := iteF h6 h;   s_nx (hp.nx (someE h) ⟨_, _, _, _, hj0, hj2, jk_own, hj7, rfl⟩))
theorem w_fresh_neighbours (node : Int) (edges : (Bool × List (Bool × List Int))) (holders : (List (List Int))) (used : (List Bool)) (reached : (List Bool)) (pw : V) {pd : PEnds} {z : ((List (Int × Int)) × (List Bool))} (hp : FinM rt_fresh_neighbours (oL (sh D.bl)) 3 pw pd z) (h : fresh_neighbours node edges holders used reached = some z) :
  fresh_neighbours_1 pd [.own none (sh D.int node), .own none (sh (eQ (eQ D.int)) edges), .own none (sh (eL (eL D.int)) holders), .own (some pw) (oL (sh D.bl) used), .own none (sh (eL D.bl) reached), .un, .un, .un] :=
  sq (let ⟨found, h1, h⟩ := bndE h;   s_asg (ev_newDK (kf := kI) (g := (sh D.int))) (congrArg (oDK kI (sh D.int)) h1) rfl jk_un (nx_ fresh_neighbours_2 (sq (let ⟨e_v, h2, h⟩ := bindE h;   let ⟨(used_1, found_1), h3, h⟩ := bindE h;   w_forO (Φ_fresh_neighbours_b1 edges reached pw) (used, found) (ei_seq (f := D.int) issq_l (ev_ix (f := (eL D.int)) issq_l (ev_s rfl) (ev_s rfl) h2)) h3 ⟨_, _, _, _, jk_own, jk_own, jk_un, jk_un, rfl⟩ (by rintro w q _ z pd' ⟨j0, j2, j6, j7, hj0, hj2, hj6, hj7, rfl⟩ h hp; exact ⟨_, (st_nm rfl hj6), w_fresh_neighbours_b1 edges reached q.1 q.2 w pw j0 j2 j7 hj0 hj2 hj7 hp h⟩) (by rintro _ ⟨j0, j2, j6, j7, hj0, hj2, hj6, hj7, rfl⟩; exact nx_ fresh_neighbours_8 (let ⟨l, h5, h⟩ := bindE h;   s_ret (ev_lcO (f := D.int) (g := (sh (eT2 D.int D.int))) (ei_seqO (f := D.int) er_sh (ev_sortDI (f := D.int) (ev_b rfl) (rd_b (look_own rfl) ((er_oDK er_sh) _)))) (.inl rfl) h5 (fun i _ h => let ⟨v, h4, h⟩ := bindE h;   lct_yes (st_nm rfl jk_un) (someE h) (ev_tup (ea_cons (ev_s rfl) (ea_cons (ev_ixBDK (kf := kI) (f := D.int) kp_int (ev_b rfl) (look_own rfl) (ev_s rfl) h4) ea_nil)) rfl (Nat.le_of_ble_eq_true rfl)))) rfl (hp.rt (someE h) rfl rfl)))))))
theorem len_fresh_neighbours : ∀ ts a, sp_fresh_neighbours.pre ts a → ts.length = 5 := fun ts a ⟨h, _⟩ => by rw [h]; rfl
theorem pu_fresh_neighbours (vs : List V) (ts a) (pre : sp_fresh_neighbours.pre ts a) (hl : vs.length = ts.length) : fresh_neighbours_1 { nx := fun env => ∃ outs, Outs vs ts env outs ∧ sp_fresh_neighbours.post a (.s .non) outs, rt := fun t env => ∃ outs, Outs vs ts env outs ∧ sp_fresh_neighbours.post a t outs } (startE N_fresh_neighbours vs ts) := by
  obtain ⟨e, h⟩ := pre
  subst e
  obtain ⟨r, hr⟩ := Option.isSome_iff_exists.mp h
  match vs, hl with
  | [v0, v1, v2, v3, v4], _ => exact w_fresh_neighbours a.1 a.2.1 a.2.2.1 a.2.2.2.1 a.2.2.2.2 v3 (pd := _) (z := r) ⟨fun {t e r' y} er et ec => ⟨out_fresh_neighbours a y, (.s (.s (.s (outs_own (by simpa using ec) (.s .nil))))), r, hr, (by rw [← er]; exact et), (by rw [← er])⟩, fun {e r' y} er et ec => ⟨out_fresh_neighbours a y, (.s (.s (.s (outs_own (by simpa using ec) (.s .nil))))), r, hr, (by rw [← er]; exact et.symm), (by rw [← er])⟩⟩ hr
/-! spread -/
abbrev Φ_spread_b1 (edges : (Bool × List (Bool × List Int))) (holders : (List (List Int))) : ((List Bool) × (List Bool) × (List Int) × (List (Int × Int × Int)) × Int) → En → Prop := fun q e => ∃ j0 j2 j9 j10 j11 j12, Jk j0 ∧ Jk j2 ∧ Jk j9 ∧ Jk j10 ∧ Jk j11 ∧ Jk j12 ∧ e = [j0, .own none (sh (eQ (eQ D.int)) edges), j2, .own none (sh (eL (eL D.int)) holders), .own none (oL (sh D.bl) q.1), .own none (oL (sh D.bl) q.2.1), .own none (oL (sh D.int) q.2.2.1), .own none (oL (sh (eT3 D.int D.int D.int)) q.2.2.2.1), .own none (sh D.int q.2.2.2.2), j9, j10, j11, j12]
theorem w_spread_b1_c (edges : (Bool × List (Bool × List Int))) (holders : (List (List Int))) (used : (List Bool)) (reached : (List Bool)) (order : (List Int)) (links : (List (Int × Int × Int))) (at_v : Int) (j0 j2 j9 j10 j11 j12 : Cell) (hj0 : Jk j0) (hj2 : Jk j2) (hj9 : Jk j9) (hj10 : Jk j10) (hj11 : Jk j11) (hj12 : Jk j12) {z : Bool} (h : spread_b1_c order at_v = some z) :
  Et (p2T gLt (pVar 8) (pCB gLen (pCons (pVar 6) pNil))) [j0, .own none (sh (eQ (eQ D.int)) edges), j2, .own none (sh (eL (eL D.int)) holders), .own none (oL (sh D.bl) used), .own none (oL (sh D.bl) reached), .own none (oL (sh D.int) order), .own none (oL (sh (eT3 D.int D.int D.int)) links), .own none (sh D.int at_v), j9, j10, j11, j12] z :=
  someE h ▸ (et_cmp (ev_s rfl) (ev_len issq_l (ev_b rfl) (rd_b (look_own rfl) ((er_oL er_sh) _)) (List.length_map _)))
abbrev Φ_spread_b2 (edges : (Bool × List (Bool × List Int))) (holders : (List (List Int))) (used : (List Bool)) (at_v : Int) (node : Int) : ((List Bool) × (List Int) × (List (Int × Int × Int))) → En → Prop := fun q e => ∃ j0 j2 j10 j11 j12, Jk j0 ∧ Jk j2 ∧ Jk j10 ∧ Jk j11 ∧ Jk j12 ∧ e = [j0, .own none (sh (eQ (eQ D.int)) edges), j2, .own none (sh (eL (eL D.int)) holders), .own none (oL (sh D.bl) used), .own none (oL (sh D.bl) q.1), .own none (oL (sh D.int) q.2.1), .own none (oL (sh (eT3 D.int D.int D.int)) q.2.2), .own none (sh D.int at_v), .own none (sh D.int node), j10, j11, j12]
theorem w_spread_b2 (edges : (Bool × List (Bool × List Int))) (holders : (List (List Int))) (used : (List Bool)) (at_v : Int) (node : Int) (reached : (List Bool)) (order : (List Int)) (links : (List (Int × Int × Int))) (other : Int) (number : Int) (j0 j2 j12 : Cell) (hj0 : Jk j0) (hj2 : Jk j2) (hj12 : Jk j12) {pd : PEnds} {z : ((List Bool) × (List Int) × (List (Int × Int × Int)))} (hp : FinO (Φ_spread_b2 edges holders used at_v node) pd z) (h : spread_b2 node reached order links other number = some z) :
  spread_11 pd [j0, .own none (sh (eQ (eQ D.int)) edges), j2, .own none (sh (eL (eL D.int)) holders), .own none (oL (sh D.bl) used), .own none (oL (sh D.bl) reached), .own none (oL (sh D.int) order), .own none (oL (sh (eT3 D.int D.int D.int)) links), .own none (sh D.int at_v), .own none (sh D.int node), .own none (sh D.int other), .own none (sh D.int number), j12] :=
  sq (let ⟨old, h1, h⟩ := bindE h;   let ⟨reached_1, h2, h⟩ := bndE h;   s_set (g := (sh D.bl)) rfl ev_c rfl (ev_s rfl) h1 h2 (nx_ spread_12 (sq (let ⟨h3, h⟩ := grdE h;   let ⟨order_1, h4, h⟩ := bndE h;   s_app (g := (sh D.int)) rfl h3 (ev_s rfl) rfl h4 (nx_ spread_13 (let ⟨h5, h⟩ := grdE h;   let ⟨links_1, h6, h⟩ := bndE h;   s_app (g := (sh (eT3 D.int D.int D.int))) rfl h5 (ev_tup (ea_cons (ev_s rfl) (ea_cons (ev_s rfl) (ea_cons (ev_s rfl) ea_nil))) rfl (Nat.le_of_ble_eq_true rfl)) rfl h6 (hp.nx (someE h) ⟨_, _, _, _, _, hj0, hj2, jk_own, jk_own, hj12, rfl⟩)))))))
theorem w_spread_b1 (edges : (Bool × List (Bool × List Int))) (holders : (List (List Int))) (used : (List Bool)) (reached : (List Bool)) (order : (List Int)) (links : (List (Int × Int × Int))) (at_v : Int) (j0 j2 j9 j10 j11 j12 : Cell) (hj0 : Jk j0) (hj2 : Jk j2) (hj9 : Jk j9) (hj10 : Jk j10) (hj11 : Jk j11) (hj12 : Jk j12) {pd : PEnds} {z : (Ctl ((List Bool) × (List Bool) × (List Int) × (List (Int × Int × Int)) × Int) Empty)} (hp : Fin (Φ_spread_b1 edges holders) (fun (r : Empty) _ _ => False) pd z) (h : spread_b1 edges holders used reached order links at_v = some z) :
  spread_9 pd [j0, .own none (sh (eQ (eQ D.int)) edges), j2, .own none (sh (eL (eL D.int)) holders), .own none (oL (sh D.bl) used), .own none (oL (sh D.bl) reached), .own none (oL (sh D.int) order), .own none (oL (sh (eT3 D.int D.int D.int)) links), .own none (sh D.int at_v), j9, j10, j11, j12] :=
  sq (let ⟨e_v, h1, h⟩ := bindE h;   let ⟨node, h2, h⟩ := bndE h;   s_asg (ev_ixB (f := D.int) (ev_b rfl) (look_own rfl) (ev_s rfl) h1) (congrArg (sh D.int) h2) rfl hj9 (nx_ spread_10 (sq (let ⟨(v, used_1), h3, h⟩ := bindE h;   let ⟨(reached_1, order_1, links_1), h4, h⟩ := bindE h;   w_forMO (Φ_spread_b2 edges holders used_1 at_v node) (reached, order, links) (m_call (enc := enT_fresh_neighbours) (fn := fn_fresh_neighbours) (RT := rt_fresh_neighbours) (out := out_fresh_neighbours) (g := (oL (sh D.bl))) (node, edges, holders, used, reached) (ea_cons (ev_s rfl) (ea_cons (ev_s rfl) (ea_cons (ev_s rfl) (ea_cons (ev_b rfl) (ea_cons (ev_b rfl) ea_nil))))) rfl rfl (am_va rfl (am_va rfl (am_va rfl (am_self (am_oth rfl (look_own rfl) ((er_oL er_sh) _) am_nil))))) h3 (oa_va (oa_va (oa_va oa_self))) (fun _ => ⟨(imt_oL (imt_sh (imd_T2 imd_int imd_int))) _, (imt_oL (imt_sh imd_bl)) _⟩)) (items_oL er_sh) h4 ⟨_, _, _, _, _, hj0, hj2, hj10, hj11, hj12, rfl⟩ (by rintro w q _ z pd' ⟨j0, j2, j10, j11, j12, hj0, hj2, hj10, hj11, hj12, rfl⟩ h hp; exact ⟨_, (st_tup (sts_cons (st_nm rfl hj10) (sts_cons (st_nm rfl hj11) sts_nil))), w_spread_b2 edges holders used_1 at_v node q.1 q.2.1 q.2.2 w.1 w.2 j0 j2 j12 hj0 hj2 hj12 hp h⟩) (by rintro _ ⟨j0, j2, j10, j11, j12, hj0, hj2, hj10, hj11, hj12, rfl⟩; exact nx_ spread_14 (let ⟨at_v_1, h5, h⟩ := bndE h;   s_asg (ev_add (ev_s rfl) ev_c) (congrArg (sh D.int) h5) rfl jk_own (hp.nx (someE h).symm ⟨_, _, _, _, _, _, hj0, hj2, jk_own, hj10, hj11, hj12, rfl⟩)))))))
theorem w_spread (nodes : Int) (edges : (Bool × List (Bool × List Int))) (start : Int) {pd : PEnds} {z : (List (Int × Int × Int))} (hp : FinR rt_spread pd z) (h : spread nodes edges start = some z) :
  spread_1 pd [.own none (sh D.int nodes), .own none (sh (eQ (eQ D.int)) edges), .own none (sh D.int start), .un, .un, .un, .un, .un, .un, .un, .un, .un, .un] :=
  sq (let ⟨v, h1, h⟩ := bindE h;   let ⟨holders, h2, h⟩ := bndE h;   s_asg (ev_call (enc := en_touching) (fn := fn_touching) (RT := rt_touching) (nodes, edges) (ea_cons (ev_s rfl) (ea_cons (ev_s rfl) ea_nil)) (rl_cons rd_s (rl_cons rd_s rl_nil)) h1 (fun z => nomatch z)) (congrArg (sh (eL (eL D.int))) h2) rfl jk_un (nx_ spread_2 (sq (let ⟨used, h3, h⟩ := bndE h;   s_asg (ev_lcM (f := (eQ D.int)) (y := fun (x_v : (Bool × List Int)) => false) (g := (sh D.bl)) (ei_seq (f := (eQ D.int)) issq_q (ev_s rfl)) (.inl rfl) (fun x_v => ⟨_, (st_nm rfl jk_un), ev_c⟩)) (congrArg (oL (sh D.bl)) h3) rfl jk_un (nx_ spread_3 (sq (let ⟨h4, h⟩ := grdE h;   let ⟨h5, h⟩ := grdE h;   let ⟨reached, h6, h⟩ := bndE h;   s_asg (ev_lcM (f := D.int) (y := fun (i : Int) => false) (g := (sh D.bl)) (ei_rng1 (ev_s rfl) h4) (.inr h5) (fun i => ⟨_, (st_nm rfl jk_un), ev_c⟩)) (congrArg (oL (sh D.bl)) h6) rfl jk_un (nx_ spread_4 (sq (let ⟨old, h7, h⟩ := bindE h;   let ⟨reached_1, h8, h⟩ := bndE h;   s_set (g := (sh D.bl)) rfl ev_c rfl (ev_s rfl) h7 h8 (nx_ spread_5 (sq (let ⟨order, h9, h⟩ := bndE h;   s_asg (ev_lst (ts := List.map (sh D.int) [start]) (ea_cons (ev_s rfl) ea_nil) rfl (Nat.le_of_ble_eq_true rfl)) (congrArg (oL (sh D.int)) h9) rfl jk_un (nx_ spread_6 (sq (let ⟨links, h10, h⟩ := bndE h;   s_asg (ev_lst (ts := List.map (sh (eT3 D.int D.int D.int)) ([] : List (Int × Int × Int))) ea_nil rfl (Nat.le_of_ble_eq_true rfl)) (congrArg (oL (sh (eT3 D.int D.int D.int))) h10) rfl jk_un (nx_ spread_7 (sq (let ⟨at_v, h11, h⟩ := bndE h;   s_asg ev_c (congrArg (sh D.int) h11) rfl jk_un (nx_ spread_8 (sq (let ⟨c_v, h12, h⟩ := bindE h;   w_while (Φ_spread_b1 edges holders) (fun (r : Empty) _ _ => False) (used, reached_1, order, links, at_v) h12 ⟨_, _, _, _, _, _, jk_own, jk_own, jk_un, jk_un, jk_un, jk_un, rfl⟩ (by rintro q _ t ⟨j0, j2, j9, j10, j11, j12, hj0, hj2, hj9, hj10, hj11, hj12, rfl⟩ h; exact w_spread_b1_c edges holders q.1 q.2.1 q.2.2.1 q.2.2.2.1 q.2.2.2.2 j0 j2 j9 j10 j11 j12 hj0 hj2 hj9 hj10 hj11 hj12 h) (by rintro q _ z pd' ⟨j0, j2, j9, j10, j11, j12, hj0, hj2, hj9, hj10, hj11, hj12, rfl⟩ h hp; exact w_spread_b1 edges holders q.1 q.2.1 q.2.2.1 q.2.2.2.1 q.2.2.2.2 j0 j2 j9 j10 j11 j12 hj0 hj2 hj9 hj10 hj11 hj12 hp h) (by rintro r t e' rfl hr; exact nomatch r) (by rintro ⟨used_1, reached_2, order_1, links_1, at_v_1⟩ _ rfl ⟨j0, j2, j9, j10, j11, j12, hj0, hj2, hj9, hj10, hj11, hj12, rfl⟩; replace h := onNx h; exact nx_ spread_15 (s_frz (k := 5) rfl ((er_oL er_sh) _) (s_ret (ev_tuple (f := (eT3 D.int D.int D.int)) issq_l (ev_b rfl) (mv_b (look_own rfl) flat_oL) sq_o) (congrArg rt_spread (someE h)) (hp.rt rfl))))))))))))))))))))))))))
theorem len_spread : ∀ ds a, sp_spread.pre ds a → ds.length = 3 := fun ds a ⟨h, _⟩ => by rw [h]; rfl
theorem pu_spread (ds a) (pre : sp_spread.pre ds a) : spread_1 { nx := fun _ => sp_spread.post a (.s .non), rt := fun t _ => sp_spread.post a t } (startP N_spread ds) := by
  obtain ⟨e, h⟩ := pre
  subst e
  obtain ⟨r, hr⟩ := Option.isSome_iff_exists.mp h
  exact w_spread a.1 a.2.1 a.2.2 (fin_R (fn := fn_spread) (enc := en_spread) (RT := rt_spread) (a := a) hr) hr
/-! _law_whole -/
theorem w_law_whole (value : Int) {pd : PEnds} {z : Bool} (hp : FinR rt_law_whole pd z) (h : law_whole value = some z) :
  law_whole_1 pd [.own none (sh D.int value)] :=
  s_ret (ev_and (ev_isi (ty := "int") (ev_s rfl) rd_s rfl) (ev_not (ev_isi (ty := "int") (ev_s rfl) rd_s rfl))) (congrArg rt_law_whole (someE h)) (hp.rt rfl)
theorem len_law_whole : ∀ ds a, sp_law_whole.pre ds a → ds.length = 1 := fun ds a ⟨h, _⟩ => by rw [h]; rfl
theorem pu_law_whole (ds a) (pre : sp_law_whole.pre ds a) : law_whole_1 { nx := fun _ => sp_law_whole.post a (.s .non), rt := fun t _ => sp_law_whole.post a t } (startP N_law_whole ds) := by
  obtain ⟨e, h⟩ := pre
  subst e
  obtain ⟨r, hr⟩ := Option.isSome_iff_exists.mp h
  exact w_law_whole a (fin_R (fn := fn_law_whole) (enc := en_law_whole) (RT := rt_law_whole) (a := a) hr) hr
/-! _law_cell -/
abbrev Φ_law_cell_b1 (k_v : Int) : (Int) → En → Prop := fun q e => ∃ j0 j3, Jk j0 ∧ Jk j3 ∧ e = [j0, .own none (sh D.int k_v), .own none (sh D.int q), j3]
theorem w_law_cell_b1 (k_v : Int) (seed : Int) (cell : Int) (j0 : Cell) (hj0 : Jk j0) {pd : PEnds} {z : (Int)} (hp : FinO (Φ_law_cell_b1 k_v) pd z) (h : law_cell_b1 seed cell = some z) :
  law_cell_7 pd [j0, .own none (sh D.int k_v), .own none (sh D.int seed), .own none (sh D.int cell)] :=
  let ⟨seed_1, h1, h⟩ := bndE h;   s_asg (ev_mod (ev_int (ev_add (ev_mul (ev_s rfl) ev_c (.inr (by decide))) (ev_mod (ev_int (ev_s rfl)) ev_c (by decide)))) ev_c (by decide)) (congrArg (sh D.int) h1) rfl jk_own (hp.nx (someE h) ⟨_, _, hj0, jk_own, rfl⟩)
theorem w_law_cell (script : (List Int)) (k_v : Int) {pd : PEnds} {z : Int} (hp : FinR rt_law_cell pd z) (h : law_cell script k_v = some z) :
  law_cell_1 pd [.own none (sh (eR D.int) script), .own none (sh D.int k_v), .un, .un] :=
  sq (s_if (et_cmp (ev_s rfl) (ev_len issq_r (ev_s rfl) rd_s (List.length_map _))) (fun h8 => let h := iteT h8 h;   sq (let ⟨e_v, h1, h⟩ := bindE h;   s_if (et_cmp (ev_ix (f := D.int) issq_r (ev_s rfl) (ev_s rfl) h1) (ev_d (ev_pow ev_c ev_c (by decide)) (congrArg D.int (by decide : ((10 : Int) ^ (18 : Int).toNat = 1000000000000000000))))) (fun h4 => let h := iteT h4 h;   let ⟨e_v_1, h2, h⟩ := bindE h;   s_ret (ev_int (ev_ix (f := D.int) issq_r (ev_s rfl) (ev_s rfl) h2)) (congrArg rt_law_cell (someE h)) (hp.rt rfl)) (fun h4 => let h := iteF h4 h;   s_nx (nx_ law_cell_4 (let ⟨e_v_2, h3, h⟩ := bindE h;   s_ret (ev_add (ev_mul (ev_mod (ev_int (ev_ix (f := D.int) issq_r (ev_s rfl) (ev_s rfl) h3)) ev_c (by decide)) ev_c (.inr (by decide))) (ev_s rfl)) (congrArg rt_law_cell (someE h)) (hp.rt rfl)))))) (fun h8 => let h := iteF h8 h;   s_nx (nx_ law_cell_5 (sq (let ⟨seed, h5, h⟩ := bndE h;   s_asg ev_c (congrArg (sh D.int) h5) rfl jk_un (nx_ law_cell_6 (sq (let ⟨seed_1, h6, h⟩ := bindE h;   w_forO (Φ_law_cell_b1 k_v) seed (ei_seq (f := D.int) issq_r (ev_s rfl)) h6 ⟨_, _, jk_own, jk_un, rfl⟩ (by rintro w q _ z pd' ⟨j0, j3, hj0, hj3, rfl⟩ h hp; exact ⟨_, (st_nm rfl hj3), w_law_cell_b1 k_v q w j0 hj0 hp h⟩) (by rintro _ ⟨j0, j3, hj0, hj3, rfl⟩; exact nx_ law_cell_8 (let ⟨h7, h⟩ := grdE h;   s_ret (ev_mod (ev_int (ev_mul (ev_mul (ev_add (ev_s rfl) ev_c) (ev_add (ev_s rfl) ev_c) h7) ev_c (.inr (by decide)))) ev_c (by decide)) (congrArg rt_law_cell (someE h)) (hp.rt rfl)))))))))))
theorem len_law_cell : ∀ ds a, sp_law_cell.pre ds a → ds.length = 2 := fun ds a ⟨h, _⟩ => by rw [h]; rfl
theorem pu_law_cell (ds a) (pre : sp_law_cell.pre ds a) : law_cell_1 { nx := fun _ => sp_law_cell.post a (.s .non), rt := fun t _ => sp_law_cell.post a t } (startP N_law_cell ds) := by
  obtain ⟨e, h⟩ := pre
  subst e
  obtain ⟨r, hr⟩ := Option.isSome_iff_exists.mp h
  exact w_law_cell a.1 a.2 (fin_R (fn := fn_law_cell) (enc := en_law_cell) (RT := rt_law_cell) (a := a) hr) hr
/-! _law_digits -/
abbrev Φ_law_digits_b1  : ((List Int) × Int) → En → Prop := fun q e => ∃ j0 j1 j4 j5 j6 j7, Jk j0 ∧ Jk j1 ∧ Jk j4 ∧ Jk j5 ∧ Jk j6 ∧ Jk j7 ∧ e = [j0, j1, .own none (oL (sh D.int) q.1), .own none (sh D.int q.2), j4, j5, j6, j7]
theorem w_law_digits_b1 (row : (List Int)) (rest_v : Int) (size : Int) (j0 j1 j5 j6 j7 : Cell) (hj0 : Jk j0) (hj1 : Jk j1) (hj5 : Jk j5) (hj6 : Jk j6) (hj7 : Jk j7) {pd : PEnds} {z : ((List Int) × Int)} (hp : FinO Φ_law_digits_b1 pd z) (h : law_digits_b1 row rest_v size = some z) :
  law_digits_6 pd [j0, j1, .own none (oL (sh D.int) row), .own none (sh D.int rest_v), .own none (sh D.int size), j5, j6, j7] :=
  sq (let ⟨h1, h⟩ := grdE h;   let ⟨h2, h⟩ := grdE h;   let ⟨row_1, h3, h⟩ := bndE h;   s_app (g := (sh D.int)) rfl h2 (ev_mod (ev_int (ev_s rfl)) (ev_s rfl) h1) rfl h3 (nx_ law_digits_7 (let ⟨h4, h⟩ := grdE h;   let ⟨rest_v_1, h5, h⟩ := bndE h;   s_asg (ev_div (ev_int (ev_s rfl)) (ev_s rfl) h4) (congrArg (sh D.int) h5) rfl jk_own (hp.nx (someE h) ⟨_, _, _, _, _, _, hj0, hj1, jk_own, hj5, hj6, hj7, rfl⟩))))
abbrev Φ_law_digits_b2 (sizes : (List Int)) : ((List Int) × Int) → En → Prop := fun q e => ∃ j0 j3 j4 j6 j7, Jk j0 ∧ Jk j3 ∧ Jk j4 ∧ Jk j6 ∧ Jk j7 ∧ e = [j0, .own none (sh (eL D.int) sizes), .own none (oL (sh D.int) q.1), j3, j4, .own none (sh D.int q.2), j6, j7]
theorem w_law_digits_b2 (sizes : (List Int)) (row : (List Int)) (seed : Int) (k_v : Int) (j0 j3 j4 j7 : Cell) (hj0 : Jk j0) (hj3 : Jk j3) (hj4 : Jk j4) (hj7 : Jk j7) {pd : PEnds} {z : ((List Int) × Int)} (hp : FinO (Φ_law_digits_b2 sizes) pd z) (h : law_digits_b2 sizes row seed k_v = some z) :
  law_digits_11 pd [j0, .own none (sh (eL D.int) sizes), .own none (oL (sh D.int) row), j3, j4, .own none (sh D.int seed), .own none (sh D.int k_v), j7] :=
  sq (let ⟨seed_1, h1, h⟩ := bndE h;   s_asg (ev_mod (ev_int (ev_add (ev_add (ev_mul (ev_s rfl) ev_c (.inr (by decide))) (ev_mul ev_c (ev_s rfl) (.inl (by decide)))) ev_c)) ev_c (by decide)) (congrArg (sh D.int) h1) rfl jk_own (nx_ law_digits_12 (sq (let ⟨h2, h⟩ := grdE h;   let ⟨twice, h3, h⟩ := bndE h;   s_asg (ev_mod (ev_int (ev_mul (ev_s rfl) (ev_add (ev_div (ev_s rfl) ev_c (by decide)) ev_c) h2)) ev_c (by decide)) (congrArg (sh D.int) h3) rfl hj7 (nx_ law_digits_13 (let ⟨e_v, h4, h⟩ := bindE h;   let ⟨h5, h⟩ := grdE h;   let ⟨h6, h⟩ := grdE h;   let ⟨row_1, h7, h⟩ := bndE h;   s_app (g := (sh D.int)) rfl h6 (ev_mod (ev_div (ev_s rfl) ev_c (by decide)) (ev_ix (f := D.int) issq_l (ev_s rfl) (ev_s rfl) h4) h5) rfl h7 (hp.nx (someE h) ⟨_, _, _, _, _, hj0, hj3, hj4, jk_own, jk_own, rfl⟩)))))))
theorem w_law_digits (cell : Int) (sizes : (List Int)) {pd : PEnds} {z : (List Int)} (hp : FinR rt_law_digits pd z) (h : law_digits cell sizes = some z) :
  law_digits_1 pd [.own none (sh D.int cell), .own none (sh (eL D.int) sizes), .un, .un, .un, .un, .un, .un] :=
  sq (let ⟨row, h1, h⟩ := bndE h;   s_asg (ev_lst (ts := List.map (sh D.int) ([] : List Int)) ea_nil rfl (Nat.le_of_ble_eq_true rfl)) (congrArg (oL (sh D.int)) h1) rfl jk_un (nx_ law_digits_2 (sq (let ⟨rest_v, h2, h⟩ := bndE h;   s_asg (ev_int (ev_s rfl)) (congrArg (sh D.int) h2) rfl jk_un (nx_ law_digits_3 (sq (s_if (et_cmp (ev_s rfl) (ev_d (ev_pow ev_c ev_c (by decide)) (congrArg D.int (by decide : ((10 : Int) ^ (18 : Int).toNat = 1000000000000000000))))) (fun h8 => let h := iteT h8 h;   sq (let ⟨rest_v_1, h3, h⟩ := bndE h;   s_asg (ev_sub (ev_s rfl) (ev_d (ev_pow ev_c ev_c (by decide)) (congrArg D.int (by decide : ((10 : Int) ^ (18 : Int).toNat = 1000000000000000000))))) (congrArg (sh D.int) h3) rfl jk_own (nx_ law_digits_5 (sq (let ⟨(row_1, rest_v_2), h4, h⟩ := bindE h;   w_forO Φ_law_digits_b1 (row, rest_v_1) (ei_seq (f := D.int) issq_l (ev_s rfl)) h4 ⟨_, _, _, _, _, _, jk_own, jk_own, jk_un, jk_un, jk_un, jk_un, rfl⟩ (by rintro w q _ z pd' ⟨j0, j1, j4, j5, j6, j7, hj0, hj1, hj4, hj5, hj6, hj7, rfl⟩ h hp; exact ⟨_, (st_nm rfl hj4), w_law_digits_b1 q.1 q.2 w j0 j1 j5 j6 j7 hj0 hj1 hj5 hj6 hj7 hp h⟩) (by rintro _ ⟨j0, j1, j4, j5, j6, j7, hj0, hj1, hj4, hj5, hj6, hj7, rfl⟩; exact nx_ law_digits_8 (s_retM rfl (hp.rt (congrArg rt_law_digits (someE h)))))))))) (fun h8 => let h := iteF h8 h;   s_nx (nx_ law_digits_9 (sq (let ⟨seed, h5, h⟩ := bndE h;   s_asg (ev_mod (ev_int (ev_s rfl)) ev_c (by decide)) (congrArg (sh D.int) h5) rfl jk_un (nx_ law_digits_10 (sq (let ⟨h6, h⟩ := grdE h;   let ⟨(row_2, seed_1), h7, h⟩ := bindE h;   w_forO (Φ_law_digits_b2 sizes) (row, seed) (ei_rng1 (ev_len issq_l (ev_s rfl) rd_s (List.length_map _)) h6) h7 ⟨_, _, _, _, _, jk_own, jk_own, jk_un, jk_un, jk_un, rfl⟩ (by rintro w q _ z pd' ⟨j0, j3, j4, j6, j7, hj0, hj3, hj4, hj6, hj7, rfl⟩ h hp; exact ⟨_, (st_nm rfl hj6), w_law_digits_b2 sizes q.1 q.2 w j0 j3 j4 j7 hj0 hj3 hj4 hj7 hp h⟩) (by rintro _ ⟨j0, j3, j4, j6, j7, hj0, hj3, hj4, hj6, hj7, rfl⟩; exact nx_ law_digits_14 (s_retM rfl (hp.rt (congrArg rt_law_digits (someE h)))))))))))))))))))
theorem len_law_digits : ∀ ds a, sp_law_digits.pre ds a → ds.length = 2 := fun ds a ⟨h, _⟩ => by rw [h]; rfl
theorem pu_law_digits (ds a) (pre : sp_law_digits.pre ds a) : law_digits_1 { nx := fun _ => sp_law_digits.post a (.s .non), rt := fun t _ => sp_law_digits.post a t } (startP N_law_digits ds) := by
  obtain ⟨e, h⟩ := pre
  subst e
  obtain ⟨r, hr⟩ := Option.isSome_iff_exists.mp h
  exact w_law_digits a.1 a.2 (fin_R (fn := fn_law_digits) (enc := en_law_digits) (RT := rt_law_digits) (a := a) hr) hr
/-! _law_held -/
theorem w_law_held (nodes : Int) (chosen : (List Int)) {pd : PEnds} {z : (List Int)} (hp : FinR rt_law_held pd z) (h : law_held nodes chosen = some z) :
  law_held_1 pd [.own none (sh D.int nodes), .own none (sh (eL D.int) chosen), .un] :=
  let ⟨h1, h⟩ := grdE h;   let ⟨h2, h⟩ := grdE h;   s_ret (ev_eq (ev_lcF (f := D.int) (c := fun (i : Int) => (memL i chosen)) (y := fun (i : Int) => i) (g := (sh D.int)) (ei_rng1 (ev_s rfl) h1) (.inr h2) (fun i => ⟨_, (st_nm rfl jk_un), (et_in (f := D.int) dq_int (sp_int _) (shpL_map sp_int _) islt_l (ev_s rfl) (ev_s rfl) rd_s rd_s), (ev_s rfl)⟩)) (congrArg (fun z => R.va (oL (sh D.int) z)) (List.map_id' _))) (congrArg rt_law_held (someE h)) (hp.rt rfl)
theorem len_law_held : ∀ ds a, sp_law_held.pre ds a → ds.length = 2 := fun ds a ⟨h, _⟩ => by rw [h]; rfl
theorem pu_law_held (ds a) (pre : sp_law_held.pre ds a) : law_held_1 { nx := fun _ => sp_law_held.post a (.s .non), rt := fun t _ => sp_law_held.post a t } (startP N_law_held ds) := by
  obtain ⟨e, h⟩ := pre
  subst e
  obtain ⟨r, hr⟩ := Option.isSome_iff_exists.mp h
  exact w_law_held a.1 a.2 (fin_R (fn := fn_law_held) (enc := en_law_held) (RT := rt_law_held) (a := a) hr) hr
/-! _law_small_edge -/
theorem w_law_small_edge_J1 (nodes : Int) (edges : (List (List Int))) (loose : Bool) (powers : (List Int)) (row : (List Int)) (one : Int) (two : Int) (near : Int) (j0 j9 : Cell) (hj0 : Jk j0) (hj9 : Jk j9) {pd : PEnds} {z : (List Int)} (hp : FinR rt_law_small_edge pd z) (h : law_small_edge_J1 nodes edges loose powers row one two near = some z) :
  law_small_edge_8 pd [j0, .own none (sh D.int nodes), .own none (sh (eL (eL D.int)) edges), .own none (sh D.bl loose), .own none (sh (eL D.int) powers), .own none (sh (eL D.int) row), .own none (sh D.int one), .own none (sh D.int two), .own none (sh D.int near), j9] :=
  sq (let ⟨e_v, h1, h⟩ := bindE h;   s_if (et_eqD (f := D.int) dq_int (sp_int _) (sp_int _) (ev_ix (f := D.int) issq_l (ev_s rfl) ev_c h1) ev_c rd_s rd_s) (fun h22 => let h := iteT h22 h;   s_ret (ev_lst (ts := List.map (sh D.int) [one]) (ea_cons (ev_s rfl) ea_nil) rfl (Nat.le_of_ble_eq_true rfl)) (congrArg rt_law_small_edge (someE h)) (hp.rt rfl)) (fun h22 => let h := iteF h22 h;   s_nx (nx_ law_small_edge_10 (sq (let ⟨e_v_1, h2, h⟩ := bindE h;   s_if (et_and (et_eqD (f := D.int) dq_int (sp_int _) (sp_int _) (ev_ix (f := D.int) issq_l (ev_s rfl) ev_c h2) ev_c rd_s rd_s) (et_cmp (ev_len issq_l (ev_s rfl) rd_s (List.length_map _)) ev_c)) (fun h21 => let h := iteT h21 h;   let ⟨e_v_2, h3, h⟩ := bindE h;   let ⟨h4, h⟩ := grdE h;   let ⟨e_v_3, h5, h⟩ := bindE h;   s_ret (ev_list (f := D.int) issq_l (ev_ix (f := (eL D.int)) issq_l (ev_s rfl) (ev_mod (ev_ix (f := D.int) issq_l (ev_s rfl) ev_c h3) (ev_len issq_l (ev_s rfl) rd_s (List.length_map _)) h4) h5) mvr_va sq_s) (congrArg rt_law_small_edge (someE h)) (hp.rt rfl)) (fun h21 => let h := iteF h21 h;   s_nx (nx_ law_small_edge_12 (sq (let ⟨e_v_4, h6, h⟩ := bindE h;   s_if (et_eqD (f := D.int) dq_int (sp_int _) (sp_int _) (ev_ix (f := D.int) issq_l (ev_s rfl) ev_c h6) ev_c rd_s rd_s) (fun h20 => let h := iteT h20 h;   let ⟨h7, h⟩ := grdE h;   let ⟨h11, h⟩ := grdE h;   let ⟨l, h12, h⟩ := bindE h;   s_ret (ev_lcO (f := D.int) (g := (sh D.int)) (ei_rng1 (ev_s rfl) h7) (.inr h11) h12 (fun i _ h => let ⟨e_v_5, h8, h⟩ := bindE h;   let ⟨e_v_6, h9, h⟩ := bindE h;   let ⟨h10, h⟩ := grdE h;   lct_if (st_nm rfl jk_un) (et_eqD (f := D.int) dq_int (sp_int _) (sp_int _) (ev_mod (ev_int (ev_div (ev_add (ev_ix (f := D.int) issq_l (ev_s rfl) ev_c h8) ev_c) (ev_ix (f := D.int) issq_l (ev_s rfl) (ev_s rfl) h9) h10)) ev_c (by decide)) ev_c rd_s rd_s) h (fun _ h => ⟨_, (someE h).symm, (ev_s rfl)⟩))) (congrArg rt_law_small_edge (someE h)) (hp.rt rfl)) (fun h20 => let h := iteF h20 h;   s_nx (nx_ law_small_edge_14 (sq (let ⟨e_v_7, h13, h⟩ := bindE h;   s_if (et_eqD (f := D.int) dq_int (sp_int _) (sp_int _) (ev_ix (f := D.int) issq_l (ev_s rfl) ev_c h13) ev_c rd_s rd_s) (fun h19 => let h := iteT h19 h;   let ⟨v, h14, h⟩ := bindE h;   s_ret (ev_call (enc := en_law_held) (fn := fn_law_held) (RT := rt_law_held) (nodes, [one, (one + (1 : Int)), (one + (2 : Int))]) (ea_cons (ev_s rfl) (ea_cons (ev_lst (ts := List.map (sh D.int) [one, (one + (1 : Int)), (one + (2 : Int))]) (ea_cons (ev_s rfl) (ea_cons (ev_add (ev_s rfl) ev_c) (ea_cons (ev_add (ev_s rfl) ev_c) ea_nil))) rfl (Nat.le_of_ble_eq_true rfl)) ea_nil)) (rl_cons rd_s (rl_cons (rd_o (er_oL er_sh)) rl_nil)) h14 (fun z => nomatch z)) (congrArg rt_law_small_edge (someE h)) (hp.rt rfl)) (fun h19 => let h := iteF h19 h;   s_nx (nx_ law_small_edge_16 (sq (let ⟨e_v_8, h15, h⟩ := bindE h;   s_if (et_and (et_cmp (ev_ix (f := D.int) issq_l (ev_s rfl) ev_c h15) ev_c) (et_bl (ev_s rfl))) (fun h18 => let h := iteT h18 h;   let ⟨v_1, h16, h⟩ := bindE h;   s_ret (ev_call (enc := en_law_held) (fn := fn_law_held) (RT := rt_law_held) (nodes, [one, two]) (ea_cons (ev_s rfl) (ea_cons (ev_lst (ts := List.map (sh D.int) [one, two]) (ea_cons (ev_s rfl) (ea_cons (ev_s rfl) ea_nil)) rfl (Nat.le_of_ble_eq_true rfl)) ea_nil)) (rl_cons rd_s (rl_cons (rd_o (er_oL er_sh)) rl_nil)) h16 (fun z => nomatch z)) (congrArg rt_law_small_edge (someE h)) (hp.rt rfl)) (fun h18 => let h := iteF h18 h;   s_nx (nx_ law_small_edge_18 (let ⟨v_2, h17, h⟩ := bindE h;   s_ret (ev_call (enc := en_law_held) (fn := fn_law_held) (RT := rt_law_held) (nodes, [one, near]) (ea_cons (ev_s rfl) (ea_cons (ev_lst (ts := List.map (sh D.int) [one, near]) (ea_cons (ev_s rfl) (ea_cons (ev_s rfl) ea_nil)) rfl (Nat.le_of_ble_eq_true rfl)) ea_nil)) (rl_cons rd_s (rl_cons (rd_o (er_oL er_sh)) rl_nil)) h17 (fun z => nomatch z)) (congrArg rt_law_small_edge (someE h)) (hp.rt rfl)))))))))))))))))))))
theorem w_law_small_edge (cell : Int) (nodes : Int) (edges : (List (List Int))) (loose : Bool) {pd : PEnds} {z : (List Int)} (hp : FinR rt_law_small_edge pd z) (h : law_small_edge cell nodes edges loose = some z) :
  law_small_edge_1 pd [.own none (sh D.int cell), .own none (sh D.int nodes), .own none (sh (eL (eL D.int)) edges), .own none (sh D.bl loose), .un, .un, .un, .un, .un, .un] :=
  sq (let ⟨powers, h1, h⟩ := bndE h;   s_asg (ev_fz (ev_lst (ts := List.map (sh D.int) [(1 : Int), (2 : Int), (4 : Int), (8 : Int), (16 : Int), (32 : Int), (64 : Int), (128 : Int), (256 : Int)]) (ea_cons ev_c (ea_cons ev_c (ea_cons ev_c (ea_cons ev_c (ea_cons ev_c (ea_cons ev_c (ea_cons ev_c (ea_cons ev_c (ea_cons ev_c ea_nil))))))))) rfl (Nat.le_of_ble_eq_true rfl)) ((er_oL er_sh) _)) (congrArg (sh (eL D.int)) h1) rfl jk_un (nx_ law_small_edge_2 (sq (let ⟨e_v, h2, h⟩ := bindE h;   let ⟨v, h3, h⟩ := bindE h;   let ⟨row, h4, h⟩ := bndE h;   s_asg (ev_fz (ev_call (enc := en_law_digits) (fn := fn_law_digits) (RT := rt_law_digits) (cell, [(12 : Int), nodes, nodes, (2 : Int), (e_v - (1 : Int)), (9 : Int)]) (ea_cons (ev_s rfl) (ea_cons (ev_lst (ts := List.map (sh D.int) [(12 : Int), nodes, nodes, (2 : Int), (e_v - (1 : Int)), (9 : Int)]) (ea_cons ev_c (ea_cons (ev_s rfl) (ea_cons (ev_s rfl) (ea_cons ev_c (ea_cons (ev_sub (ev_ix (f := D.int) issq_l (ev_s rfl) (ev_s rfl) h2) ev_c) (ea_cons ev_c ea_nil)))))) rfl (Nat.le_of_ble_eq_true rfl)) ea_nil)) (rl_cons rd_s (rl_cons (rd_o (er_oL er_sh)) rl_nil)) h3 (fun z => nomatch z)) ((er_oL er_sh) _)) (congrArg (sh (eL D.int)) h4) rfl jk_un (nx_ law_small_edge_3 (sq (let ⟨e_v_1, h5, h⟩ := bindE h;   let ⟨one, h6, h⟩ := bndE h;   s_asg (ev_ix (f := D.int) issq_l (ev_s rfl) ev_c h5) (congrArg (sh D.int) h6) rfl jk_un (nx_ law_small_edge_4 (sq (let ⟨e_v_2, h7, h⟩ := bindE h;   let ⟨h8, h⟩ := grdE h;   let ⟨h9, h⟩ := grdE h;   let ⟨two, h10, h⟩ := bndE h;   s_asg (ev_mod (ev_int (ev_add (ev_add (ev_s rfl) ev_c) (ev_mod (ev_ix (f := D.int) issq_l (ev_s rfl) ev_c h7) (ev_max2 ev_c (ev_sub (ev_s rfl) ev_c)) h8))) (ev_s rfl) h9) (congrArg (sh D.int) h10) rfl jk_un (nx_ law_small_edge_5 (sq (let ⟨e_v_3, h11, h⟩ := bindE h;   let ⟨near, h12, h⟩ := bndE h;   s_asg (ev_add (ev_add (ev_s rfl) ev_c) (ev_ix (f := D.int) issq_l (ev_s rfl) ev_c h11)) (congrArg (sh D.int) h12) rfl jk_un (nx_ law_small_edge_6 (sq (s_if (et_cmp (ev_s rfl) (ev_s rfl)) (fun h15 => let h := iteT h15 h;   let ⟨e_v_4, h13, h⟩ := bindE h;   let ⟨near_1, h14, h⟩ := bndE h;   s_asg (ev_max2 ev_c (ev_sub (ev_sub (ev_s rfl) ev_c) (ev_ix (f := D.int) issq_l (ev_s rfl) ev_c h13))) (congrArg (sh D.int) h14) rfl jk_own (nx_ law_small_edge_8 (w_law_small_edge_J1 nodes edges loose powers row one two near_1 _ _ (jk_own) (jk_un) hp h))) (fun h15 => let h := iteF h15 h;   s_nx (nx_ law_small_edge_8 (w_law_small_edge_J1 nodes edges loose powers row one two near _ _ (jk_own) (jk_un) hp h)))))))))))))))))))
theorem len_law_small_edge : ∀ ds a, sp_law_small_edge.pre ds a → ds.length = 4 := fun ds a ⟨h, _⟩ => by rw [h]; rfl
theorem pu_law_small_edge (ds a) (pre : sp_law_small_edge.pre ds a) : law_small_edge_1 { nx := fun _ => sp_law_small_edge.post a (.s .non), rt := fun t _ => sp_law_small_edge.post a t } (startP N_law_small_edge ds) := by
  obtain ⟨e, h⟩ := pre
  subst e
  obtain ⟨r, hr⟩ := Option.isSome_iff_exists.mp h
  exact w_law_small_edge a.1 a.2.1 a.2.2.1 a.2.2.2 (fin_R (fn := fn_law_small_edge) (enc := en_law_small_edge) (RT := rt_law_small_edge) (a := a) hr) hr
/-! _law_wide_edges -/
abbrev Φ_law_wide_edges_b1 (nodes : Int) (row : (List Int)) : ((List (List Int))) → En → Prop := fun q e => ∃ j0 j4 j5 j6 j7 j8 j9 j10, Jk j0 ∧ Jk j4 ∧ Jk j5 ∧ Jk j6 ∧ Jk j7 ∧ Jk j8 ∧ Jk j9 ∧ Jk j10 ∧ e = [j0, .own none (sh D.int nodes), .own none (sh (eL D.int) row), .own none (oL (sh (eL D.int)) q), j4, j5, j6, j7, j8, j9, j10]
theorem w_law_wide_edges_b1 (nodes : Int) (row : (List Int)) (edges : (List (List Int))) (k_v : Int) (j0 j5 j6 j7 j8 j9 j10 : Cell) (hj0 : Jk j0) (hj5 : Jk j5) (hj6 : Jk j6) (hj7 : Jk j7) (hj8 : Jk j8) (hj9 : Jk j9) (hj10 : Jk j10) {pd : PEnds} {z : ((List (List Int)))} (hp : FinO (Φ_law_wide_edges_b1 nodes row) pd z) (h : law_wide_edges_b1 nodes row edges k_v = some z) :
  law_wide_edges_4 pd [j0, .own none (sh D.int nodes), .own none (sh (eL D.int) row), .own none (oL (sh (eL D.int)) edges), .own none (sh D.int k_v), j5, j6, j7, j8, j9, j10] :=
  sq (let ⟨e_v, h1, h⟩ := bindE h;   let ⟨h2, h⟩ := grdE h;   let ⟨one, h3, h⟩ := bndE h;   s_asg (ev_mod (ev_int (ev_ix (f := D.int) issq_l (ev_s rfl) (ev_add (ev_mul ev_c (ev_s rfl) (.inl (by decide))) ev_c) h1)) (ev_s rfl) h2) (congrArg (sh D.int) h3) rfl hj5 (nx_ law_wide_edges_5 (sq (let ⟨e_v_1, h4, h⟩ := bindE h;   let ⟨near, h5, h⟩ := bndE h;   s_asg (ev_min2 (ev_sub (ev_s rfl) ev_c) (ev_add (ev_add (ev_s rfl) ev_c) (ev_ix (f := D.int) issq_l (ev_s rfl) (ev_add (ev_mul ev_c (ev_s rfl) (.inl (by decide))) ev_c) h4))) (congrArg (sh D.int) h5) rfl hj6 (nx_ law_wide_edges_6 (sq (let ⟨e_v_2, h6, h⟩ := bindE h;   let ⟨h7, h⟩ := grdE h;   let ⟨two, h8, h⟩ := bndE h;   s_asg (ev_mod (ev_int (ev_ix (f := D.int) issq_l (ev_s rfl) (ev_add (ev_mul ev_c (ev_s rfl) (.inl (by decide))) ev_c) h6)) (ev_s rfl) h7) (congrArg (sh D.int) h8) rfl hj7 (nx_ law_wide_edges_7 (sq (let ⟨e_v_3, h9, h⟩ := bindE h;   let ⟨h10, h⟩ := grdE h;   let ⟨three, h11, h⟩ := bndE h;   s_asg (ev_mod (ev_int (ev_ix (f := D.int) issq_l (ev_s rfl) (ev_add (ev_mul ev_c (ev_s rfl) (.inl (by decide))) ev_c) h9)) (ev_s rfl) h10) (congrArg (sh D.int) h11) rfl hj8 (nx_ law_wide_edges_8 (sq (let ⟨chosen, h12, h⟩ := bndE h;   s_asg (ev_lst (ts := List.map (sh (eL D.int)) [[one], [one, near], [one, near], [one, near], [one, two], [one, near, (near - (1 : Int))]]) (ea_cons (ev_fz (ev_lst (ts := List.map (sh D.int) [one]) (ea_cons (ev_s rfl) ea_nil) rfl (Nat.le_of_ble_eq_true rfl)) ((er_oL er_sh) _)) (ea_cons (ev_fz (ev_lst (ts := List.map (sh D.int) [one, near]) (ea_cons (ev_s rfl) (ea_cons (ev_s rfl) ea_nil)) rfl (Nat.le_of_ble_eq_true rfl)) ((er_oL er_sh) _)) (ea_cons (ev_fz (ev_lst (ts := List.map (sh D.int) [one, near]) (ea_cons (ev_s rfl) (ea_cons (ev_s rfl) ea_nil)) rfl (Nat.le_of_ble_eq_true rfl)) ((er_oL er_sh) _)) (ea_cons (ev_fz (ev_lst (ts := List.map (sh D.int) [one, near]) (ea_cons (ev_s rfl) (ea_cons (ev_s rfl) ea_nil)) rfl (Nat.le_of_ble_eq_true rfl)) ((er_oL er_sh) _)) (ea_cons (ev_fz (ev_lst (ts := List.map (sh D.int) [one, two]) (ea_cons (ev_s rfl) (ea_cons (ev_s rfl) ea_nil)) rfl (Nat.le_of_ble_eq_true rfl)) ((er_oL er_sh) _)) (ea_cons (ev_fz (ev_lst (ts := List.map (sh D.int) [one, near, (near - (1 : Int))]) (ea_cons (ev_s rfl) (ea_cons (ev_s rfl) (ea_cons (ev_sub (ev_s rfl) ev_c) ea_nil))) rfl (Nat.le_of_ble_eq_true rfl)) ((er_oL er_sh) _)) ea_nil)))))) rfl (Nat.le_of_ble_eq_true rfl)) (congrArg (oL (sh (eL D.int))) h12) rfl hj9 (nx_ law_wide_edges_9 (sq (let ⟨h13, h⟩ := grdE h;   let ⟨chosen_1, h14, h⟩ := bndE h;   s_app (g := (sh (eL D.int))) rfl h13 (ev_fz (ev_lst (ts := List.map (sh D.int) [one, near, two, three]) (ea_cons (ev_s rfl) (ea_cons (ev_s rfl) (ea_cons (ev_s rfl) (ea_cons (ev_s rfl) ea_nil)))) rfl (Nat.le_of_ble_eq_true rfl)) ((er_oL er_sh) _)) rfl h14 (nx_ law_wide_edges_10 (sq (let ⟨e_v_4, h15, h⟩ := bindE h;   let ⟨h16, h⟩ := grdE h;   let ⟨h17, h⟩ := grdE h;   let ⟨h18, h⟩ := grdE h;   let ⟨chosen_2, h19, h⟩ := bndE h;   s_app (g := (sh (eL D.int))) rfl h18 (ev_fz (ev_lcM (f := D.int) (y := fun (i : Int) => (one + i)) (g := (sh D.int)) (ei_rng1 (ev_add ev_c (ev_mul ev_c (ev_ix (f := D.int) issq_l (ev_s rfl) (ev_add (ev_mul ev_c (ev_s rfl) (.inl (by decide))) ev_c) h15) (.inl (by decide)))) h16) (.inr h17) (fun i => ⟨_, (st_nm rfl jk_un), (ev_add (ev_s rfl) (ev_s rfl))⟩)) ((er_oL er_sh) _)) rfl h19 (nx_ law_wide_edges_11 (let ⟨e_v_5, h20, h⟩ := bindE h;   let ⟨e_v_6, h21, h⟩ := bindE h;   let ⟨v, h22, h⟩ := bindE h;   let ⟨h23, h⟩ := grdE h;   let ⟨edges_1, h24, h⟩ := bndE h;   s_app (g := (sh (eL D.int))) rfl h23 (ev_fz (ev_call (enc := en_law_held) (fn := fn_law_held) (RT := rt_law_held) (nodes, e_v_6) (ea_cons (ev_s rfl) (ea_cons (ev_ixB (f := (eL D.int)) (ev_b rfl) (look_own rfl) (ev_ix (f := D.int) issq_l (ev_s rfl) (ev_mul ev_c (ev_s rfl) (.inl (by decide))) h20) h21) ea_nil)) (rl_cons rd_s (rl_cons rd_s rl_nil)) h22 (fun z => nomatch z)) ((er_oL er_sh) _)) rfl h24 (hp.nx (someE h) ⟨_, _, _, _, _, _, _, _, hj0, jk_own, jk_own, jk_own, jk_own, jk_own, jk_own, hj10, rfl⟩))))))))))))))))))))))
theorem w_law_wide_edges (cell : Int) (nodes : Int) {pd : PEnds} {z : (List (List Int))} (hp : FinR rt_law_wide_edges pd z) (h : law_wide_edges cell nodes = some z) :
  law_wide_edges_1 pd [.own none (sh D.int cell), .own none (sh D.int nodes), .un, .un, .un, .un, .un, .un, .un, .un, .un] :=
  sq (let ⟨v, h1, h⟩ := bindE h;   let ⟨row, h2, h⟩ := bndE h;   s_asg (ev_fz (ev_call (enc := en_law_digits) (fn := fn_law_digits) (RT := rt_law_digits) (cell, (repL [(8 : Int), (60 : Int), (60 : Int), (60 : Int), (5 : Int)] (7 : Int))) (ea_cons (ev_s rfl) (ea_cons (ev_rep (f := D.int) (ev_lst (ts := List.map (sh D.int) [(8 : Int), (60 : Int), (60 : Int), (60 : Int), (5 : Int)]) (ea_cons ev_c (ea_cons ev_c (ea_cons ev_c (ea_cons ev_c (ea_cons ev_c ea_nil))))) rfl (Nat.le_of_ble_eq_true rfl)) ev_c mvr_va sq_o ⟨by decide, by decide, by simp [sizeLine_eq] <;> omega⟩) ea_nil)) (rl_cons rd_s (rl_cons (rd_o (er_oL er_sh)) rl_nil)) h1 (fun z => nomatch z)) ((er_oL er_sh) _)) (congrArg (sh (eL D.int)) h2) rfl jk_un (nx_ law_wide_edges_2 (sq (let ⟨edges, h3, h⟩ := bndE h;   s_asg (ev_lst (ts := List.map (sh (eL D.int)) ([] : List (List Int))) ea_nil rfl (Nat.le_of_ble_eq_true rfl)) (congrArg (oL (sh (eL D.int))) h3) rfl jk_un (nx_ law_wide_edges_3 (sq (let ⟨edges_1, h4, h⟩ := bindE h;   w_forO (Φ_law_wide_edges_b1 nodes row) edges (ei_rng1 ev_c (by decide)) h4 ⟨_, _, _, _, _, _, _, _, jk_own, jk_un, jk_un, jk_un, jk_un, jk_un, jk_un, jk_un, rfl⟩ (by rintro w q _ z pd' ⟨j0, j4, j5, j6, j7, j8, j9, j10, hj0, hj4, hj5, hj6, hj7, hj8, hj9, hj10, rfl⟩ h hp; exact ⟨_, (st_nm rfl hj4), w_law_wide_edges_b1 nodes row q w j0 j5 j6 j7 j8 j9 j10 hj0 hj5 hj6 hj7 hj8 hj9 hj10 hp h⟩) (by rintro _ ⟨j0, j4, j5, j6, j7, j8, j9, j10, hj0, hj4, hj5, hj6, hj7, hj8, hj9, hj10, rfl⟩; exact nx_ law_wide_edges_12 (s_retM rfl (hp.rt (congrArg rt_law_wide_edges (someE h))))))))))))
theorem len_law_wide_edges : ∀ ds a, sp_law_wide_edges.pre ds a → ds.length = 2 := fun ds a ⟨h, _⟩ => by rw [h]; rfl
theorem pu_law_wide_edges (ds a) (pre : sp_law_wide_edges.pre ds a) : law_wide_edges_1 { nx := fun _ => sp_law_wide_edges.post a (.s .non), rt := fun t _ => sp_law_wide_edges.post a t } (startP N_law_wide_edges ds) := by
  obtain ⟨e, h⟩ := pre
  subst e
  obtain ⟨r, hr⟩ := Option.isSome_iff_exists.mp h
  exact w_law_wide_edges a.1 a.2 (fin_R (fn := fn_law_wide_edges) (enc := en_law_wide_edges) (RT := rt_law_wide_edges) (a := a) hr) hr
/-! _law_net -/
abbrev Φ_law_net_b1 (script : (List Int)) (at_v : Int) (shape : (List Int)) (nodes : Int) : ((List (List Int))) → En → Prop := fun q e => ∃ j4 j6 j7 j8 j9 j10, Jk j4 ∧ Jk j6 ∧ Jk j7 ∧ Jk j8 ∧ Jk j9 ∧ Jk j10 ∧ e = [.own none (sh (eR D.int) script), .own none (sh D.int at_v), .own none (sh (eL D.int) shape), .own none (sh D.int nodes), j4, .own none (sh (eL (eL D.int)) q), j6, j7, j8, j9, j10]
theorem w_law_net_b1 (script : (List Int)) (at_v : Int) (shape : (List Int)) (nodes : Int) (edges : (List (List Int))) (k_v : Int) (j4 j7 j8 j9 j10 : Cell) (hj4 : Jk j4) (hj7 : Jk j7) (hj8 : Jk j8) (hj9 : Jk j9) (hj10 : Jk j10) {pd : PEnds} {z : ((List (List Int)))} (hp : FinO (Φ_law_net_b1 script at_v shape nodes) pd z) (h : law_net_b1 script at_v nodes edges k_v = some z) :
  law_net_8 pd [.own none (sh (eR D.int) script), .own none (sh D.int at_v), .own none (sh (eL D.int) shape), .own none (sh D.int nodes), j4, .own none (sh (eL (eL D.int)) edges), .own none (sh D.int k_v), j7, j8, j9, j10] :=
  sq (let ⟨v, h1, h⟩ := bindE h;   let ⟨v_1, h2, h⟩ := bindE h;   let ⟨h3, h⟩ := grdE h;   let ⟨edges_1, h4, h⟩ := bndE h;   s_asg (ev_cat2 (f := (eL D.int)) (ev_s rfl) (ev_call (enc := en_law_wide_edges) (fn := fn_law_wide_edges) (RT := rt_law_wide_edges) (v, nodes) (ea_cons (ev_call (enc := en_law_cell) (fn := fn_law_cell) (RT := rt_law_cell) (script, ((at_v + (1 : Int)) + k_v)) (ea_cons (ev_s rfl) (ea_cons (ev_add (ev_add (ev_s rfl) ev_c) (ev_s rfl)) ea_nil)) (rl_cons rd_s (rl_cons rd_s rl_nil)) h1 (fun z => nomatch z)) (ea_cons (ev_s rfl) ea_nil)) (rl_cons rd_s (rl_cons rd_s rl_nil)) h2 (fun z => nomatch z)) mvr_va mvr_va sq_s sq_o h3) (congrArg (oL (sh (eL D.int))) h4) rfl jk_own (nx_ (pFrz 5 pNext) (s_frz (k := 5) rfl ((er_oL er_sh) _) (s_nx (hp.nx (someE h) ⟨_, _, _, _, _, _, hj4, jk_own, hj7, hj8, hj9, hj10, rfl⟩)))))
abbrev Φ_law_net_b2 (script : (List Int)) (at_v : Int) (shape : (List Int)) (nodes : Int) : ((List (List Int))) → En → Prop := fun q e => ∃ j4 j6 j7 j8 j9 j10, Jk j4 ∧ Jk j6 ∧ Jk j7 ∧ Jk j8 ∧ Jk j9 ∧ Jk j10 ∧ e = [.own none (sh (eR D.int) script), .own none (sh D.int at_v), .own none (sh (eL D.int) shape), .own none (sh D.int nodes), j4, .own none (oL (sh (eL D.int)) q), j6, j7, j8, j9, j10]
theorem w_law_net_b2 (script : (List Int)) (at_v : Int) (shape : (List Int)) (nodes : Int) (edges : (List (List Int))) (k_v : Int) (j4 j7 j8 j9 j10 : Cell) (hj4 : Jk j4) (hj7 : Jk j7) (hj8 : Jk j8) (hj9 : Jk j9) (hj10 : Jk j10) {pd : PEnds} {z : ((List (List Int)))} (hp : FinO (Φ_law_net_b2 script at_v shape nodes) pd z) (h : law_net_b2 script at_v shape nodes edges k_v = some z) :
  law_net_12 pd [.own none (sh (eR D.int) script), .own none (sh D.int at_v), .own none (sh (eL D.int) shape), .own none (sh D.int nodes), j4, .own none (oL (sh (eL D.int)) edges), .own none (sh D.int k_v), j7, j8, j9, j10] :=
  let ⟨v, h1, h⟩ := bindE h;   let ⟨e_v, h2, h⟩ := bindE h;   let ⟨v_1, h3, h⟩ := bindE h;   let ⟨h4, h⟩ := grdE h;   let ⟨edges_1, h5, h⟩ := bndE h;   s_app (g := (sh (eL D.int))) rfl h4 (ev_fz (ev_call (enc := en_law_small_edge) (fn := fn_law_small_edge) (RT := rt_law_small_edge) (v, nodes, edges, (decide (e_v = (0 : Int)))) (ea_cons (ev_call (enc := en_law_cell) (fn := fn_law_cell) (RT := rt_law_cell) (script, ((at_v + (1 : Int)) + k_v)) (ea_cons (ev_s rfl) (ea_cons (ev_add (ev_add (ev_s rfl) ev_c) (ev_s rfl)) ea_nil)) (rl_cons rd_s (rl_cons rd_s rl_nil)) h1 (fun z => nomatch z)) (ea_cons (ev_s rfl) (ea_cons (ev_b rfl) (ea_cons (ev_eqD (f := D.int) dq_int (sp_int _) (sp_int _) (ev_ix (f := D.int) issq_l (ev_s rfl) ev_c h2) ev_c rd_s rd_s) ea_nil)))) (rl_cons rd_s (rl_cons rd_s (rl_cons (rd_b (look_own rfl) ((er_oL er_sh) _)) (rl_cons rd_s rl_nil)))) h3 (fun _ => (imt_oL (imt_sh imd_int)) _)) ((er_oL er_sh) _)) rfl h5 (hp.nx (someE h) ⟨_, _, _, _, _, _, hj4, jk_own, hj7, hj8, hj9, hj10, rfl⟩)
theorem w_law_net_J1 (shape : (List Int)) (nodes : Int) (edges : (List (List Int))) (j0 j1 j4 j6 j7 j8 j9 j10 : Cell) (hj0 : Jk j0) (hj1 : Jk j1) (hj4 : Jk j4) (hj6 : Jk j6) (hj7 : Jk j7) (hj8 : Jk j8) (hj9 : Jk j9) (hj10 : Jk j10) {pd : PEnds} {z : (Int × (List (List Int)))} (hp : FinR rt_law_net pd z) (h : law_net_J1 shape nodes edges = some z) :
  law_net_13 pd [j0, j1, .own none (sh (eL D.int) shape), .own none (sh D.int nodes), j4, .own none (sh (eL (eL D.int)) edges), j6, j7, j8, j9, j10] :=
  sq (let ⟨h1, h⟩ := grdE h;   let ⟨h3, h⟩ := grdE h;   let ⟨l, h4, h⟩ := bindE h;   let ⟨order, h5, h⟩ := bndE h;   s_asg (ev_fz (ev_lcM (f := (eT2 D.int D.int)) (y := fun (x_v : (Int × Int)) => x_v.2) (g := (sh D.int)) (ei_seqO (f := (eT2 D.int D.int)) er_sh (ev_sortL (f := (eT2 D.int D.int)) (can_tup (ord_T2 ord_int ord_int dq_int dq_int irr_int) (sp_T2 sp_int sp_int) (fun _ => ⟨_, _, rfl⟩)) (ev_lcO (f := D.int) (g := (sh (eT2 D.int D.int))) (ei_rng1 (ev_s rfl) h1) (.inr h3) h4 (fun i _ h => let ⟨e_v, h2, h⟩ := bindE h;   lct_yes (st_nm rfl jk_un) (someE h) (ev_tup (ea_cons (ev_ix (f := D.int) issq_l (ev_s rfl) (ev_add ev_c (ev_s rfl)) h2) (ea_cons (ev_s rfl) ea_nil)) rfl (Nat.le_of_ble_eq_true rfl)))) mvr_va sq_o)) (.inl rfl) (fun x_v => ⟨_, (st_nm rfl jk_un), (ev_ixD (j := 1) (d := D.int x_v.2) issq_t (ev_s rfl) ev_c rfl rfl)⟩)) ((er_oL er_sh) _)) (congrArg (sh (eL D.int)) h5) rfl hj7 (nx_ law_net_14 (let ⟨l_2, h8, h⟩ := bindE h;   s_ret (ev_fz (ev_lst (ts := [.s (D.int nodes), .s ((eL (eL D.int)) l_2)]) (ea_cons (ev_s rfl) (ea_cons (ev_fz (ev_lcO (f := (eL D.int)) (g := (sh (eL D.int))) (ei_seq (f := (eL D.int)) issq_l (ev_s rfl)) (.inl rfl) h8 (fun x_v_1 _ h => let ⟨l_1, h7, h⟩ := bindE h;   lct_yes (st_nm rfl jk_un) (someE h) (ev_fz (ev_sortL (f := D.int) (can_oth ord_int sp_int (fun _ => ⟨(fun z => nomatch z), fun _ z => nomatch z⟩)) (ev_lcO (f := D.int) (g := (sh D.int)) (ei_seq (f := D.int) issq_l (ev_s rfl)) (.inl rfl) h7 (fun i_1 _ h => let ⟨e_v_1, h6, h⟩ := bindE h;   lct_yes (st_nm rfl jk_un) (someE h) (ev_ix (f := D.int) issq_l (ev_s rfl) (ev_s rfl) h6))) mvr_va sq_o) ((er_oL er_sh) _)))) ((er_oL er_sh) _)) ea_nil)) rfl (Nat.le_of_ble_eq_true rfl)) rfl) (congrArg rt_law_net (someE h)) (hp.rt rfl))))
theorem w_law_net (script : (List Int)) (at_v : Int) {pd : PEnds} {z : (Int × (List (List Int)))} (hp : FinR rt_law_net pd z) (h : law_net script at_v = some z) :
  law_net_1 pd [.own none (sh (eR D.int) script), .own none (sh D.int at_v), .un, .un, .un, .un, .un, .un, .un, .un, .un] :=
  sq (let ⟨v, h1, h⟩ := bindE h;   let ⟨h2, h⟩ := grdE h;   let ⟨v_1, h3, h⟩ := bindE h;   let ⟨shape, h4, h⟩ := bndE h;   s_asg (ev_fz (ev_call (enc := en_law_digits) (fn := fn_law_digits) (RT := rt_law_digits) (v, ([(16 : Int), (24 : Int), (8 : Int), (52 : Int), (56 : Int), (3 : Int)] ++ (repL [(1000 : Int)] (60 : Int)))) (ea_cons (ev_call (enc := en_law_cell) (fn := fn_law_cell) (RT := rt_law_cell) (script, at_v) (ea_cons (ev_s rfl) (ea_cons (ev_s rfl) ea_nil)) (rl_cons rd_s (rl_cons rd_s rl_nil)) h1 (fun z => nomatch z)) (ea_cons (ev_cat2 (f := D.int) (ev_lst (ts := List.map (sh D.int) [(16 : Int), (24 : Int), (8 : Int), (52 : Int), (56 : Int), (3 : Int)]) (ea_cons ev_c (ea_cons ev_c (ea_cons ev_c (ea_cons ev_c (ea_cons ev_c (ea_cons ev_c ea_nil)))))) rfl (Nat.le_of_ble_eq_true rfl)) (ev_rep (f := D.int) (ev_lst (ts := List.map (sh D.int) [(1000 : Int)]) (ea_cons ev_c ea_nil) rfl (Nat.le_of_ble_eq_true rfl)) ev_c mvr_va sq_o ⟨by decide, by decide, by simp [sizeLine_eq] <;> omega⟩) mvr_va mvr_va sq_o sq_o h2) ea_nil)) (rl_cons rd_s (rl_cons (rd_o (er_oL er_sh)) rl_nil)) h3 (fun z => nomatch z)) ((er_oL er_sh) _)) (congrArg (sh (eL D.int)) h4) rfl jk_un (nx_ law_net_2 (sq (let ⟨e_v, h5, h⟩ := bindE h;   let ⟨e_v_1, h6, h⟩ := bindE h;   let ⟨nodes, h7, h⟩ := bndE h;   s_asg (ev_ixO (f := D.int) (ev_lst (ts := List.map (sh D.int) [(8 : Int), (7 : Int), (6 : Int), (5 : Int), (4 : Int), (3 : Int), (2 : Int), (1 : Int), (8 : Int), (7 : Int), (8 : Int), (6 : Int), (8 : Int), (7 : Int), (8 : Int), (6 : Int)]) (ea_cons ev_c (ea_cons ev_c (ea_cons ev_c (ea_cons ev_c (ea_cons ev_c (ea_cons ev_c (ea_cons ev_c (ea_cons ev_c (ea_cons ev_c (ea_cons ev_c (ea_cons ev_c (ea_cons ev_c (ea_cons ev_c (ea_cons ev_c (ea_cons ev_c (ea_cons ev_c ea_nil)))))))))))))))) rfl (Nat.le_of_ble_eq_true rfl)) (ev_ix (f := D.int) issq_l (ev_s rfl) ev_c h5) h6) (congrArg (sh D.int) h7) rfl jk_un (nx_ law_net_3 (sq (let ⟨e_v_2, h8, h⟩ := bindE h;   let ⟨e_v_3, h9, h⟩ := bindE h;   let ⟨many, h10, h⟩ := bndE h;   s_asg (ev_ixO (f := D.int) (ev_lst (ts := List.map (sh D.int) [(9 : Int), (8 : Int), (7 : Int), (6 : Int), (5 : Int), (4 : Int), (3 : Int), (2 : Int), (1 : Int), (0 : Int), (9 : Int), (8 : Int), (7 : Int), (9 : Int), (8 : Int), (6 : Int), (9 : Int), (8 : Int), (7 : Int), (9 : Int), (8 : Int), (7 : Int), (9 : Int), (9 : Int)]) (ea_cons ev_c (ea_cons ev_c (ea_cons ev_c (ea_cons ev_c (ea_cons ev_c (ea_cons ev_c (ea_cons ev_c (ea_cons ev_c (ea_cons ev_c (ea_cons ev_c (ea_cons ev_c (ea_cons ev_c (ea_cons ev_c (ea_cons ev_c (ea_cons ev_c (ea_cons ev_c (ea_cons ev_c (ea_cons ev_c (ea_cons ev_c (ea_cons ev_c (ea_cons ev_c (ea_cons ev_c (ea_cons ev_c (ea_cons ev_c ea_nil)))))))))))))))))))))))) rfl (Nat.le_of_ble_eq_true rfl)) (ev_ix (f := D.int) issq_l (ev_s rfl) ev_c h8) h9) (congrArg (sh D.int) h10) rfl jk_un (nx_ law_net_4 (sq (let ⟨edges, h11, h⟩ := bndE h;   s_asg (ev_lst (ts := List.map (sh (eL D.int)) ([] : List (List Int))) ea_nil rfl (Nat.le_of_ble_eq_true rfl)) (congrArg (oL (sh (eL D.int))) h11) rfl jk_un (nx_ law_net_5 (sq (let ⟨e_v_4, h12, h⟩ := bindE h;   s_if (et_eqD (f := D.int) dq_int (sp_int _) (sp_int _) (ev_ix (f := D.int) issq_l (ev_s rfl) ev_c h12) ev_c rd_s rd_s) (fun h20 => let h := iteT h20 h;   s_frz (k := 5) rfl ((er_oL er_sh) _) (sq (let ⟨e_v_5, h13, h⟩ := bindE h;   let ⟨nodes_1, h14, h⟩ := bndE h;   s_asg (ev_add ev_c (ev_ix (f := D.int) issq_l (ev_s rfl) ev_c h13)) (congrArg (sh D.int) h14) rfl jk_own (nx_ law_net_7 (sq (let ⟨edges_1, h15, h⟩ := bindE h;   w_forO (Φ_law_net_b1 script at_v shape nodes_1) edges (ei_rng1 ev_c (by decide)) h15 ⟨_, _, _, _, _, _, jk_own, jk_un, jk_un, jk_un, jk_un, jk_un, rfl⟩ (by rintro w q _ z pd' ⟨j4, j6, j7, j8, j9, j10, hj4, hj6, hj7, hj8, hj9, hj10, rfl⟩ h hp; exact ⟨_, (st_nm rfl hj6), w_law_net_b1 script at_v shape nodes_1 q w j4 j7 j8 j9 j10 hj4 hj7 hj8 hj9 hj10 hp h⟩) (by rintro _ ⟨j4, j6, j7, j8, j9, j10, hj4, hj6, hj7, hj8, hj9, hj10, rfl⟩; exact nx_ law_net_9 (sq (let ⟨e_v_6, h16, h⟩ := bindE h;   let ⟨edges_2, h17, h⟩ := bndE h;   s_asg (ev_slL (f := (eL D.int)) (ev_s rfl) mvr_va sq_s eo_no (eo_part (ev_add ev_c (ev_ix (f := D.int) issq_l (ev_s rfl) ev_c h16)))) (congrArg (oL (sh (eL D.int))) h17) rfl jk_own (nx_ (pFrz 5 pNext) (s_frz (k := 5) rfl ((er_oL er_sh) _) (s_nx (nx_ law_net_13 (w_law_net_J1 shape nodes_1 edges_2 _ _ _ _ _ _ _ _ (jk_own) (jk_own) (hj4) (hj6) (hj7) (hj8) (hj9) (hj10) hp h)))))))))))))) (fun h20 => let h := iteF h20 h;   sq (let ⟨h18, h⟩ := grdE h;   let ⟨edges_3, h19, h⟩ := bindE h;   w_forO (Φ_law_net_b2 script at_v shape nodes) edges (ei_rng1 (ev_s rfl) h18) h19 ⟨_, _, _, _, _, _, jk_own, jk_un, jk_un, jk_un, jk_un, jk_un, rfl⟩ (by rintro w q _ z pd' ⟨j4, j6, j7, j8, j9, j10, hj4, hj6, hj7, hj8, hj9, hj10, rfl⟩ h hp; exact ⟨_, (st_nm rfl hj6), w_law_net_b2 script at_v shape nodes q w j4 j7 j8 j9 j10 hj4 hj7 hj8 hj9 hj10 hp h⟩) (by rintro _ ⟨j4, j6, j7, j8, j9, j10, hj4, hj6, hj7, hj8, hj9, hj10, rfl⟩; exact nx_ (pFrz 5 pNext) (s_frz (k := 5) rfl ((er_oL er_sh) _) (s_nx (nx_ law_net_13 (w_law_net_J1 shape nodes edges_3 _ _ _ _ _ _ _ _ (jk_own) (jk_own) (hj4) (hj6) (hj7) (hj8) (hj9) (hj10) hp h))))))))))))))))))))
theorem len_law_net : ∀ ds a, sp_law_net.pre ds a → ds.length = 2 := fun ds a ⟨h, _⟩ => by rw [h]; rfl
theorem pu_law_net (ds a) (pre : sp_law_net.pre ds a) : law_net_1 { nx := fun _ => sp_law_net.post a (.s .non), rt := fun t _ => sp_law_net.post a t } (startP N_law_net ds) := by
  obtain ⟨e, h⟩ := pre
  subst e
  obtain ⟨r, hr⟩ := Option.isSome_iff_exists.mp h
  exact w_law_net a.1 a.2 (fin_R (fn := fn_law_net) (enc := en_law_net) (RT := rt_law_net) (a := a) hr) hr
/-! _law_form -/
theorem w_law_form (rows : (List (List Int))) (form : Int) {pd : PEnds} {z : (Bool × List (Bool × List Int))} (hp : FinR rt_law_form pd z) (h : law_form rows form = some z) :
  law_form_1 pd [.own none (sh (eL (eL D.int)) rows), .own none (sh D.int form), .un] :=
  sq (s_if (et_eqD (f := D.int) dq_int (sp_int _) (sp_int _) (ev_s rfl) ev_c rd_s rd_s) (fun h3 => let h := iteT h3 h;   s_ret (ev_d (ev_fz (ev_lcM (f := (eL D.int)) (y := fun (x_v : (List Int)) => ((fun xs => (false, xs)) x_v)) (g := (sh (eQ D.int))) (ei_seq (f := (eL D.int)) issq_l (ev_s rfl)) (.inl rfl) (fun x_v => ⟨_, (st_nm rfl jk_un), (ev_d (ev_fz (ev_list (f := D.int) issq_l (ev_s rfl) mvr_va sq_s) ((er_oL er_sh) _)) ((co_LQ0 : Co (eL D.int) (eQ D.int) (fun xs => (false, xs))) x_v))⟩)) ((er_oL er_sh) _)) ((co_LQ0 : Co (eL (eQ D.int)) (eQ (eQ D.int)) (fun xs => (false, xs))) (rows.map fun x_v => ((fun xs => (false, xs)) x_v)))) (congrArg rt_law_form (someE h)) (hp.rt rfl)) (fun h3 => let h := iteF h3 h;   s_nx (nx_ law_form_3 (sq (s_if (et_eqD (f := D.int) dq_int (sp_int _) (sp_int _) (ev_s rfl) ev_c rd_s rd_s) (fun h2 => let h := iteT h2 h;   s_ret (ev_d (ev_tuple (f := (eQ D.int)) issq_l (ev_lcM (f := (eL D.int)) (y := fun (x_v_1 : (List Int)) => ((fun xs => (true, xs)) x_v_1)) (g := (sh (eQ D.int))) (ei_seq (f := (eL D.int)) issq_l (ev_s rfl)) (.inl rfl) (fun x_v_1 => ⟨_, (st_nm rfl jk_un), (ev_d (ev_tuple (f := D.int) issq_l (ev_s rfl) mvr_va sq_s) ((co_UQ0 : Co (eU D.int) (eQ D.int) (fun xs => (true, xs))) x_v_1))⟩)) mvr_va sq_o) ((co_UQ0 : Co (eU (eQ D.int)) (eQ (eQ D.int)) (fun xs => (true, xs))) (rows.map fun x_v_1 => ((fun xs => (true, xs)) x_v_1)))) (congrArg rt_law_form (someE h)) (hp.rt rfl)) (fun h2 => let h := iteF h2 h;   s_nx (nx_ law_form_5 (sq (s_if (et_eqD (f := D.int) dq_int (sp_int _) (sp_int _) (ev_s rfl) ev_c rd_s rd_s) (fun h1 => let h := iteT h1 h;   s_ret (ev_d (ev_fz (ev_lcM (f := (eL D.int)) (y := fun (x_v_2 : (List Int)) => ((fun xs => (true, xs)) x_v_2)) (g := (sh (eQ D.int))) (ei_seq (f := (eL D.int)) issq_l (ev_s rfl)) (.inl rfl) (fun x_v_2 => ⟨_, (st_nm rfl jk_un), (ev_d (ev_tuple (f := D.int) issq_l (ev_s rfl) mvr_va sq_s) ((co_UQ0 : Co (eU D.int) (eQ D.int) (fun xs => (true, xs))) x_v_2))⟩)) ((er_oL er_sh) _)) ((co_LQ0 : Co (eL (eQ D.int)) (eQ (eQ D.int)) (fun xs => (false, xs))) (rows.map fun x_v_2 => ((fun xs => (true, xs)) x_v_2)))) (congrArg rt_law_form (someE h)) (hp.rt rfl)) (fun h1 => let h := iteF h1 h;   s_nx (nx_ law_form_7 (s_ret (ev_d (ev_tuple (f := (eQ D.int)) issq_l (ev_lcM (f := (eL D.int)) (y := fun (x_v_3 : (List Int)) => ((fun xs => (false, xs)) x_v_3)) (g := (sh (eQ D.int))) (ei_seq (f := (eL D.int)) issq_l (ev_s rfl)) (.inl rfl) (fun x_v_3 => ⟨_, (st_nm rfl jk_un), (ev_d (ev_fz (ev_list (f := D.int) issq_l (ev_s rfl) mvr_va sq_s) ((er_oL er_sh) _)) ((co_LQ0 : Co (eL D.int) (eQ D.int) (fun xs => (false, xs))) x_v_3))⟩)) mvr_va sq_o) ((co_UQ0 : Co (eU (eQ D.int)) (eQ (eQ D.int)) (fun xs => (true, xs))) (rows.map fun x_v_3 => ((fun xs => (false, xs)) x_v_3)))) (congrArg rt_law_form (someE h)) (hp.rt rfl)))))))))))))
theorem len_law_form : ∀ ds a, sp_law_form.pre ds a → ds.length = 2 := fun ds a ⟨h, _⟩ => by rw [h]; rfl
theorem pu_law_form (ds a) (pre : sp_law_form.pre ds a) : law_form_1 { nx := fun _ => sp_law_form.post a (.s .non), rt := fun t _ => sp_law_form.post a t } (startP N_law_form ds) := by
  obtain ⟨e, h⟩ := pre
  subst e
  obtain ⟨r, hr⟩ := Option.isSome_iff_exists.mp h
  exact w_law_form a.1 a.2 (fin_R (fn := fn_law_form) (enc := en_law_form) (RT := rt_law_form) (a := a) hr) hr
/-! _law_numbers -/
abbrev Φ_law_numbers_b1 (told : (Int × Int × Int)) (due : (Int × Int × Int)) : Unit → En → Prop := fun q e => ∃ j2, Jk j2 ∧ e = [.own none (sh (eT3 D.int D.int D.int) told), .own none (sh (eT3 D.int D.int D.int) due), j2]
theorem w_law_numbers_b1 (told : (Int × Int × Int)) (due : (Int × Int × Int)) (k_v : Int) {pd : PEnds} {z : (Ctl Unit Bool)} (hp : Fin (Φ_law_numbers_b1 told due) RP_law_numbers pd z) (h : law_numbers_b1 told due k_v = some z) :
  law_numbers_4 pd [.own none (sh (eT3 D.int D.int D.int) told), .own none (sh (eT3 D.int D.int D.int) due), .own none (sh D.int k_v)] :=
  let ⟨e_v, h1, h⟩ := bindE h;   let ⟨v, h2, h⟩ := bindE h;   let ⟨b, h5, h⟩ := bindE h;   s_if (et_orM (et_not (et_bl (ev_call (enc := en_law_whole) (fn := fn_law_whole) (RT := rt_law_whole) e_v (ea_cons (ev_ix (f := D.int) issq_t (ev_d (ev_s rfl) (((co_TU3 co_id co_id co_id) : Co (eT3 D.int D.int D.int) (eU D.int) (fun p => [p.1, p.2.1, p.2.2])) told)) (ev_s rfl) h1) ea_nil) (rl_cons rd_s rl_nil) h2 (fun z => nomatch z)))) h5 (fun _ h => let ⟨e_v_1, h3, h⟩ := bindE h;   let ⟨e_v_2, h4, h⟩ := bindE h;   someE h ▸ (et_neD (f := D.int) dq_int (sp_int _) (sp_int _) (ev_ix (f := D.int) issq_t (ev_d (ev_s rfl) (((co_TU3 co_id co_id co_id) : Co (eT3 D.int D.int D.int) (eU D.int) (fun p => [p.1, p.2.1, p.2.2])) told)) (ev_s rfl) h3) (ev_ix (f := D.int) issq_t (ev_d (ev_s rfl) (((co_TU3 co_id co_id co_id) : Co (eT3 D.int D.int D.int) (eU D.int) (fun p => [p.1, p.2.1, p.2.2])) due)) (ev_s rfl) h4) rd_s rd_s))) (fun h6 => let h := iteT h6 h;   s_ret ev_c rfl (hp.rt (someE h).symm rfl)) (fun h6 => let h := iteF h6 h;   s_nx (hp.nx (someE h).symm ⟨_, jk_own, rfl⟩))
theorem w_law_numbers (told : (Int × Int × Int)) (due : (Int × Int × Int)) {pd : PEnds} {z : Bool} (hp : FinR rt_law_numbers pd z) (h : law_numbers told due = some z) :
  law_numbers_1 pd [.own none (sh (eT3 D.int D.int D.int) told), .own none (sh (eT3 D.int D.int D.int) due), .un] :=
  sq (s_if (et_or (et_not (et_bl (ev_isi (ty := "tuple") (ev_s rfl) rd_s rfl))) (et_neD (f := D.int) dq_int (sp_int _) (sp_int _) (ev_len (n := 3) issq_t (ev_s rfl) rd_s rfl) (ev_len (n := 3) issq_t (ev_s rfl) rd_s rfl) rd_s rd_s)) (fun h2 => let h := iteT h2 h;   s_ret ev_c (congrArg rt_law_numbers (someE h)) (hp.rt rfl)) (fun h2 => let h := iteF h2 h;   s_nx (nx_ law_numbers_3 (sq (let ⟨c_v, h1, h⟩ := bindE h;   w_for (Φ_law_numbers_b1 told due) RP_law_numbers () (ei_rng1 (ev_len (n := 3) issq_t (ev_s rfl) rd_s rfl) (by decide)) h1 ⟨_, jk_un, rfl⟩ (by rintro w q _ z pd' ⟨j2, hj2, rfl⟩ h hp; exact ⟨_, (st_nm rfl hj2), w_law_numbers_b1 told due w hp h⟩) (by rintro r t e' rfl hr; exact hp.rt (hr.trans (congrArg rt_law_numbers (someE h)))) (by rintro _ _ rfl ⟨j2, hj2, rfl⟩; replace h := onNx h; exact nx_ law_numbers_6 (s_ret ev_c (congrArg rt_law_numbers (someE h)) (hp.rt rfl))))))))
theorem len_law_numbers : ∀ ds a, sp_law_numbers.pre ds a → ds.length = 2 := fun ds a ⟨h, _⟩ => by rw [h]; rfl
theorem pu_law_numbers (ds a) (pre : sp_law_numbers.pre ds a) : law_numbers_1 { nx := fun _ => sp_law_numbers.post a (.s .non), rt := fun t _ => sp_law_numbers.post a t } (startP N_law_numbers ds) := by
  obtain ⟨e, h⟩ := pre
  subst e
  obtain ⟨r, hr⟩ := Option.isSome_iff_exists.mp h
  exact w_law_numbers a.1 a.2 (fin_R (fn := fn_law_numbers) (enc := en_law_numbers) (RT := rt_law_numbers) (a := a) hr) hr
/-! _law_rows -/
abbrev Φ_law_rows_b1 (edges : (List (List Int))) : ((List (Option (List Int)))) → En → Prop := fun q e => ∃ j0 j2 j4 j5 j6 j7 j8 j9, Jk j0 ∧ Jk j2 ∧ Jk j4 ∧ Jk j5 ∧ Jk j6 ∧ Jk j7 ∧ Jk j8 ∧ Jk j9 ∧ e = [j0, .own none (sh (eL (eL D.int)) edges), j2, .own none (oL (sh (eO (eU D.int))) q), j4, j5, j6, j7, j8, j9]
abbrev Φ_law_rows_b2 (edges : (List (List Int))) (turn : Int) : ((List (Option (List Int))) × Int) → En → Prop := fun q e => ∃ j0 j2 j6 j7 j8 j9, Jk j0 ∧ Jk j2 ∧ Jk j6 ∧ Jk j7 ∧ Jk j8 ∧ Jk j9 ∧ e = [j0, .own none (sh (eL (eL D.int)) edges), j2, .own none (oL (sh (eO (eU D.int))) q.1), .own none (sh D.int turn), .own none (sh D.int q.2), j6, j7, j8, j9]
abbrev Φ_law_rows_b3 (edges : (List (List Int))) (turn : Int) (near : (List (List Int))) : ((List (Option (List Int))) × Int) → En → Prop := fun q e => ∃ j0 j2 j6 j8 j9, Jk j0 ∧ Jk j2 ∧ Jk j6 ∧ Jk j8 ∧ Jk j9 ∧ e = [j0, .own none (sh (eL (eL D.int)) edges), j2, .own none (oL (sh (eO (eU D.int))) q.1), .own none (sh D.int turn), .own none (sh D.int q.2), j6, .own none (sh (eL (eU D.int)) near), j8, j9]
theorem w_law_rows_b3 (edges : (List (List Int))) (turn : Int) (near : (List (List Int))) (least : (List (Option (List Int)))) (grown : Int) (node : Int) (j0 j2 j6 j9 : Cell) (hj0 : Jk j0) (hj2 : Jk j2) (hj6 : Jk j6) (hj9 : Jk j9) {pd : PEnds} {z : ((List (Option (List Int))) × Int)} (hp : FinO (Φ_law_rows_b3 edges turn near) pd z) (h : law_rows_b3 turn near least grown node = some z) :
  law_rows_9 pd [j0, .own none (sh (eL (eL D.int)) edges), j2, .own none (oL (sh (eO (eU D.int))) least), .own none (sh D.int turn), .own none (sh D.int grown), j6, .own none (sh (eL (eU D.int)) near), .own none (sh D.int node), j9] :=
  sq (let ⟨m, h1, h⟩ := bindE h;   let ⟨h2, h⟩ := grdE h;   let ⟨row, h3, h⟩ := bndE h;   s_asg (ev_catU (ev_minD (f := (eU D.int)) (ord_U ord_int dq_int) (dq_U dq_int) (sp_U sp_int) (fun _ z => nomatch z) (ev_s rfl) mvr_va sq_s h1) (ev_d (ev_tup (ea_cons (ev_s rfl) ea_nil) rfl (Nat.le_of_ble_eq_true rfl)) (((co_TU1 co_id) : Co (eT1 D.int) (eU D.int) (fun p => [p])) node)) h2) (congrArg (sh (eU D.int)) h3) rfl hj9 (nx_ law_rows_10 (let ⟨e_v, h4, h⟩ := bindE h;   let ⟨b_1, h10, h⟩ := bindE h;   s_if (et_orM (et_isN (f := (eU D.int)) nn_U (ev_ixB (f := (eO (eU D.int))) (ev_b rfl) (look_own rfl) (ev_s rfl) h4) rd_s) h10 (fun _ h => let ⟨e_v_1, h5, h⟩ := bindE h;   let ⟨z, h6, h⟩ := bindE h;   let ⟨b, h9, h⟩ := bindE h;   someE h ▸ (et_andM (et_eqD (f := D.int) dq_int (sp_int _) (sp_int _) (ev_len issq_t (ev_unw (f := (eU D.int)) (ev_ixB (f := (eO (eU D.int))) (ev_b rfl) (look_own rfl) (ev_s rfl) h5) h6) rd_s (List.length_map _)) (ev_add (ev_s rfl) ev_c) rd_s rd_s) h9 (fun _ h => let ⟨e_v_2, h7, h⟩ := bindE h;   let ⟨z_1, h8, h⟩ := bindE h;   someE h ▸ (et_ord (sw := false) (neg := false) (f := (eU D.int)) (ord_U ord_int dq_int) (sp_U sp_int) (fun z => nomatch z) (ev_s rfl) (ev_unw (f := (eU D.int)) (ev_ixB (f := (eO (eU D.int))) (ev_b rfl) (look_own rfl) (ev_s rfl) h7) h8) rd_s rd_s))))) (fun h14 => let h := iteT h14 h;   sq (let ⟨old, h11, h⟩ := bindE h;   let ⟨least_1, h12, h⟩ := bndE h;   s_set (g := (sh (eO (eU D.int)))) rfl (ev_d (ev_s rfl) (((co_some co_id) : Co (eU D.int) (eO (eU D.int)) some) row)) rfl (ev_s rfl) h11 h12 (nx_ law_rows_12 (let ⟨grown_1, h13, h⟩ := bndE h;   s_asg (ev_add (ev_s rfl) ev_c) (congrArg (sh D.int) h13) rfl jk_own (hp.nx (someE h) ⟨_, _, _, _, _, hj0, hj2, hj6, jk_own, jk_own, rfl⟩))))) (fun h14 => let h := iteF h14 h;   s_nx (hp.nx (someE h) ⟨_, _, _, _, _, hj0, hj2, hj6, jk_own, jk_own, rfl⟩)))))
theorem w_law_rows_b2 (edges : (List (List Int))) (turn : Int) (least : (List (Option (List Int)))) (grown : Int) (edge : (List Int)) (j0 j2 j7 j8 j9 : Cell) (hj0 : Jk j0) (hj2 : Jk j2) (hj7 : Jk j7) (hj8 : Jk j8) (hj9 : Jk j9) {pd : PEnds} {z : ((List (Option (List Int))) × Int)} (hp : FinO (Φ_law_rows_b2 edges turn) pd z) (h : law_rows_b2 turn least grown edge = some z) :
  law_rows_6 pd [j0, .own none (sh (eL (eL D.int)) edges), j2, .own none (oL (sh (eO (eU D.int))) least), .own none (sh D.int turn), .own none (sh D.int grown), .own none (sh (eL D.int) edge), j7, j8, j9] :=
  sq (let ⟨l, h2, h⟩ := bindE h;   let ⟨l_1, h6, h⟩ := bindE h;   let ⟨near, h7, h⟩ := bndE h;   s_asgF (ev_lcO (f := (eO (eU D.int))) (g := (sh (eU D.int))) (ei_seqO (f := (eO (eU D.int))) er_sh (ev_lcO (f := D.int) (g := (sh (eO (eU D.int)))) (ei_seq (f := D.int) issq_l (ev_s rfl)) (.inl rfl) h2 (fun i _ h => let ⟨e_v, h1, h⟩ := bindE h;   lct_yes (st_nm rfl jk_un) (someE h) (ev_ixB (f := (eO (eU D.int))) (ev_b rfl) (look_own rfl) (ev_s rfl) h1)))) (.inl rfl) h6 (fun x_v _ h => let ⟨b, h4, h⟩ := bindE h;   lct_if (st_nm rfl jk_un) (et_andM (et_notN (f := (eU D.int)) nn_U (ev_s rfl) rd_s) h4 (fun _ h => let ⟨z, h3, h⟩ := bindE h;   someE h ▸ (et_eqD (f := D.int) dq_int (sp_int _) (sp_int _) (ev_len issq_t (ev_unw (f := (eU D.int)) (ev_s rfl) h3) rd_s (List.length_map _)) (ev_add (ev_s rfl) ev_c) rd_s rd_s))) h (fun _ h => let ⟨z_1, h5, h⟩ := bindE h;   ⟨_, (someE h).symm, (ev_unw (f := (eU D.int)) (ev_s rfl) h5)⟩))) (((er_oL er_sh) _).trans (congrArg (eL (eU D.int)) h7)) rfl hj7 (nx_ law_rows_7 (s_if (et_cmp (ev_len issq_l (ev_s rfl) rd_s (List.length_map _)) ev_c) (fun h9 => let h := iteT h9 h;   let ⟨(least_1, grown_1), h8, h⟩ := bindE h;   w_forO (Φ_law_rows_b3 edges turn near) (least, grown) (ei_seq (f := D.int) issq_l (ev_s rfl)) h8 ⟨_, _, _, _, _, hj0, hj2, jk_own, hj8, hj9, rfl⟩ (by rintro w q _ z pd' ⟨j0, j2, j6, j8, j9, hj0, hj2, hj6, hj8, hj9, rfl⟩ h hp; exact ⟨_, (st_nm rfl hj8), w_law_rows_b3 edges turn near q.1 q.2 w j0 j2 j6 j9 hj0 hj2 hj6 hj9 hp h⟩) (by rintro _ ⟨j0, j2, j6, j8, j9, hj0, hj2, hj6, hj8, hj9, rfl⟩; exact hp.nx (someE h) ⟨_, _, _, _, _, _, hj0, hj2, hj6, jk_own, hj8, hj9, rfl⟩)) (fun h9 => let h := iteF h9 h;   s_nx (hp.nx (someE h) ⟨_, _, _, _, _, _, hj0, hj2, jk_own, jk_own, hj8, hj9, rfl⟩)))))
theorem w_law_rows_b1 (edges : (List (List Int))) (least : (List (Option (List Int)))) (turn : Int) (j0 j2 j5 j6 j7 j8 j9 : Cell) (hj0 : Jk j0) (hj2 : Jk j2) (hj5 : Jk j5) (hj6 : Jk j6) (hj7 : Jk j7) (hj8 : Jk j8) (hj9 : Jk j9) {pd : PEnds} {z : (Ctl ((List (Option (List Int)))) Empty)} (hp : Fin (Φ_law_rows_b1 edges) (fun (r : Empty) _ _ => False) pd z) (h : law_rows_b1 edges least turn = some z) :
  law_rows_4 pd [j0, .own none (sh (eL (eL D.int)) edges), j2, .own none (oL (sh (eO (eU D.int))) least), .own none (sh D.int turn), j5, j6, j7, j8, j9] :=
  sq (let ⟨grown, h1, h⟩ := bndE h;   s_asg ev_c (congrArg (sh D.int) h1) rfl hj5 (nx_ law_rows_5 (sq (let ⟨(least_1, grown_1), h2, h⟩ := bindE h;   w_forO (Φ_law_rows_b2 edges turn) (least, grown) (ei_seq (f := (eL D.int)) issq_l (ev_s rfl)) h2 ⟨_, _, _, _, _, _, hj0, hj2, hj6, hj7, hj8, hj9, rfl⟩ (by rintro w q _ z pd' ⟨j0, j2, j6, j7, j8, j9, hj0, hj2, hj6, hj7, hj8, hj9, rfl⟩ h hp; exact ⟨_, (st_nm rfl hj6), w_law_rows_b2 edges turn q.1 q.2 w j0 j2 j7 j8 j9 hj0 hj2 hj7 hj8 hj9 hp h⟩) (by rintro _ ⟨j0, j2, j6, j7, j8, j9, hj0, hj2, hj6, hj7, hj8, hj9, rfl⟩; exact nx_ law_rows_13 (s_if (et_eqD (f := D.int) dq_int (sp_int _) (sp_int _) (ev_s rfl) ev_c rd_s rd_s) (fun h3 => let h := iteT h3 h;   s_bk (hp.bk (someE h).symm ⟨_, _, _, _, _, _, _, _, hj0, hj2, jk_own, jk_own, hj6, hj7, hj8, hj9, rfl⟩)) (fun h3 => let h := iteF h3 h;   s_nx (hp.nx (someE h).symm ⟨_, _, _, _, _, _, _, _, hj0, hj2, jk_own, jk_own, hj6, hj7, hj8, hj9, rfl⟩))))))))
theorem w_law_rows (nodes : Int) (edges : (List (List Int))) (start : Int) {pd : PEnds} {z : (List (Option (List Int)))} (hp : FinR rt_law_rows pd z) (h : law_rows nodes edges start = some z) :
  law_rows_1 pd [.own none (sh D.int nodes), .own none (sh (eL (eL D.int)) edges), .own none (sh D.int start), .un, .un, .un, .un, .un, .un, .un] :=
  sq (let ⟨h1, h⟩ := grdE h;   let ⟨h2, h⟩ := grdE h;   let ⟨least, h3, h⟩ := bndE h;   s_asg (ev_lcM (f := D.int) (y := fun (i : Int) => (none : (Option (List Int)))) (g := (sh (eO (eU D.int)))) (ei_rng1 (ev_s rfl) h1) (.inr h2) (fun i => ⟨_, (st_nm rfl jk_un), (ev_d ev_c (rfl : eU1 () = (eO (eU D.int)) none))⟩)) (congrArg (oL (sh (eO (eU D.int)))) h3) rfl jk_un (nx_ law_rows_2 (sq (let ⟨old, h4, h⟩ := bindE h;   let ⟨least_1, h5, h⟩ := bndE h;   s_set (g := (sh (eO (eU D.int)))) rfl (ev_d (ev_tup (ea_cons (ev_s rfl) ea_nil) rfl (Nat.le_of_ble_eq_true rfl)) (((co_some (co_TU1 co_id)) : Co (eT1 D.int) (eO (eU D.int)) (fun x => some ((fun p => [p]) x))) start)) rfl (ev_s rfl) h4 h5 (nx_ law_rows_3 (sq (let ⟨h6, h⟩ := grdE h;   let ⟨c_v, h7, h⟩ := bindE h;   w_for (Φ_law_rows_b1 edges) (fun (r : Empty) _ _ => False) least_1 (ei_rng1 (ev_s rfl) h6) h7 ⟨_, _, _, _, _, _, _, _, jk_own, jk_own, jk_un, jk_un, jk_un, jk_un, jk_un, jk_un, rfl⟩ (by rintro w q _ z pd' ⟨j0, j2, j4, j5, j6, j7, j8, j9, hj0, hj2, hj4, hj5, hj6, hj7, hj8, hj9, rfl⟩ h hp; exact ⟨_, (st_nm rfl hj4), w_law_rows_b1 edges q w j0 j2 j5 j6 j7 j8 j9 hj0 hj2 hj5 hj6 hj7 hj8 hj9 hp h⟩) (by rintro r t e' rfl hr; exact nomatch r) (by rintro least_2 _ rfl ⟨j0, j2, j4, j5, j6, j7, j8, j9, hj0, hj2, hj4, hj5, hj6, hj7, hj8, hj9, rfl⟩; replace h := onNx h; exact nx_ law_rows_15 (s_retM rfl (hp.rt (congrArg rt_law_rows (someE h))))))))))))
theorem len_law_rows : ∀ ds a, sp_law_rows.pre ds a → ds.length = 3 := fun ds a ⟨h, _⟩ => by rw [h]; rfl
theorem pu_law_rows (ds a) (pre : sp_law_rows.pre ds a) : law_rows_1 { nx := fun _ => sp_law_rows.post a (.s .non), rt := fun t _ => sp_law_rows.post a t } (startP N_law_rows ds) := by
  obtain ⟨e, h⟩ := pre
  subst e
  obtain ⟨r, hr⟩ := Option.isSome_iff_exists.mp h
  exact w_law_rows a.1 a.2.1 a.2.2 (fin_R (fn := fn_law_rows) (enc := en_law_rows) (RT := rt_law_rows) (a := a) hr) hr
/-! _law_links -/
abbrev Φ_law_links_b1 (edges : (List (List Int))) : ((List (Int × Int × Int))) → En → Prop := fun q e => ∃ j0 j2 j3 j5 j6 j7 j8 j9 j10, Jk j0 ∧ Jk j2 ∧ Jk j3 ∧ Jk j5 ∧ Jk j6 ∧ Jk j7 ∧ Jk j8 ∧ Jk j9 ∧ Jk j10 ∧ e = [j0, .own none (sh (eL (eL D.int)) edges), j2, j3, .own none (oL (sh (eT3 D.int D.int D.int)) q), j5, j6, j7, j8, j9, j10]
theorem w_law_links_b1 (edges : (List (List Int))) (links : (List (Int × Int × Int))) (pair : (Int × (List Int))) (j0 j2 j3 j6 j7 j8 j9 j10 : Cell) (hj0 : Jk j0) (hj2 : Jk j2) (hj3 : Jk j3) (hj6 : Jk j6) (hj7 : Jk j7) (hj8 : Jk j8) (hj9 : Jk j9) (hj10 : Jk j10) {pd : PEnds} {z : ((List (Int × Int × Int)))} (hp : FinO (Φ_law_links_b1 edges) pd z) (h : law_links_b1 edges links pair = some z) :
  law_links_4 pd [j0, .own none (sh (eL (eL D.int)) edges), j2, j3, .own none (oL (sh (eT3 D.int D.int D.int)) links), .own none (sh (eT2 D.int (eU D.int)) pair), j6, j7, j8, j9, j10] :=
  sq (let ⟨e_v, h1, h⟩ := bindE h;   let ⟨one, h2, h⟩ := bndE h;   s_asg (ev_ix (f := D.int) issq_t (ev_ixD (j := 1) (d := (eU D.int) pair.2) issq_t (ev_s rfl) ev_c rfl rfl) (ev_sub (ev_ixD (j := 0) (d := D.int pair.1) issq_t (ev_s rfl) ev_c rfl rfl) ev_c) h1) (congrArg (sh D.int) h2) rfl hj6 (nx_ law_links_5 (sq (let ⟨e_v_1, h3, h⟩ := bindE h;   let ⟨two, h4, h⟩ := bndE h;   s_asg (ev_ix (f := D.int) issq_t (ev_ixD (j := 1) (d := (eU D.int) pair.2) issq_t (ev_s rfl) ev_c rfl rfl) (ev_sub (ev_ixD (j := 0) (d := D.int pair.1) issq_t (ev_s rfl) ev_c rfl rfl) ev_c) h3) (congrArg (sh D.int) h4) rfl hj7 (nx_ law_links_6 (sq (let ⟨h5, h⟩ := grdE h;   let ⟨h9, h⟩ := grdE h;   let ⟨l, h10, h⟩ := bindE h;   let ⟨both, h11, h⟩ := bndE h;   s_asgF (ev_lcO (f := D.int) (g := (sh D.int)) (ei_rng1 (ev_len issq_l (ev_s rfl) rd_s (List.length_map _)) h5) (.inr h9) h10 (fun i _ h => let ⟨e_v_2, h6, h⟩ := bindE h;   let ⟨b, h8, h⟩ := bindE h;   lct_if (st_nm rfl jk_un) (et_andM (et_in (f := D.int) dq_int (sp_int _) (shpL_map sp_int _) islt_l (ev_s rfl) (ev_ix (f := (eL D.int)) issq_l (ev_s rfl) (ev_s rfl) h6) rd_s rd_s) h8 (fun _ h => let ⟨e_v_3, h7, h⟩ := bindE h;   someE h ▸ (et_in (f := D.int) dq_int (sp_int _) (shpL_map sp_int _) islt_l (ev_s rfl) (ev_ix (f := (eL D.int)) issq_l (ev_s rfl) (ev_s rfl) h7) rd_s rd_s))) h (fun _ h => ⟨_, (someE h).symm, (ev_s rfl)⟩))) (((er_oL er_sh) _).trans (congrArg (eL D.int) h11)) rfl hj8 (nx_ law_links_7 (let ⟨e_v_4, h12, h⟩ := bindE h;   let ⟨h13, h⟩ := grdE h;   let ⟨links_1, h14, h⟩ := bndE h;   s_app (g := (sh (eT3 D.int D.int D.int))) rfl h13 (ev_tup (ea_cons (ev_s rfl) (ea_cons (ev_ix (f := D.int) issq_l (ev_s rfl) ev_c h12) (ea_cons (ev_s rfl) ea_nil))) rfl (Nat.le_of_ble_eq_true rfl)) rfl h14 (hp.nx (someE h) ⟨_, _, _, _, _, _, _, _, _, hj0, hj2, hj3, jk_own, jk_own, jk_own, jk_own, hj9, hj10, rfl⟩))))))))))
theorem w_law_links (nodes : Int) (edges : (List (List Int))) (start : Int) {pd : PEnds} {z : (List (Int × Int × Int))} (hp : FinR rt_law_links pd z) (h : law_links nodes edges start = some z) :
  law_links_1 pd [.own none (sh D.int nodes), .own none (sh (eL (eL D.int)) edges), .own none (sh D.int start), .un, .un, .un, .un, .un, .un, .un, .un] :=
  sq (let ⟨v, h1, h⟩ := bindE h;   let ⟨least, h2, h⟩ := bndE h;   s_asg (ev_fz (ev_call (enc := en_law_rows) (fn := fn_law_rows) (RT := rt_law_rows) (nodes, edges, start) (ea_cons (ev_s rfl) (ea_cons (ev_s rfl) (ea_cons (ev_s rfl) ea_nil))) (rl_cons rd_s (rl_cons rd_s (rl_cons rd_s rl_nil))) h1 (fun z => nomatch z)) ((er_oL er_sh) _)) (congrArg (sh (eL (eO (eU D.int)))) h2) rfl jk_un (nx_ law_links_2 (sq (let ⟨links, h3, h⟩ := bndE h;   s_asg (ev_lst (ts := List.map (sh (eT3 D.int D.int D.int)) ([] : List (Int × Int × Int))) ea_nil rfl (Nat.le_of_ble_eq_true rfl)) (congrArg (oL (sh (eT3 D.int D.int D.int))) h3) rfl jk_un (nx_ law_links_3 (sq (let ⟨l, h8, h⟩ := bindE h;   let ⟨links_1, h9, h⟩ := bindE h;   w_forO (Φ_law_links_b1 edges) links (ei_seqO (f := (eT2 D.int (eU D.int))) er_sh (ev_sortL (f := (eT2 D.int (eU D.int))) (can_tup (ord_T2 ord_int (ord_U ord_int dq_int) dq_int (dq_U dq_int) (irr_L irr_int)) (sp_T2 sp_int (sp_U sp_int)) (fun _ => ⟨_, _, rfl⟩)) (ev_lcO (f := (eO (eU D.int))) (g := (sh (eT2 D.int (eU D.int)))) (ei_seq (f := (eO (eU D.int))) issq_l (ev_s rfl)) (.inl rfl) h8 (fun x_v _ h => let ⟨b, h5, h⟩ := bindE h;   lct_if (st_nm rfl jk_un) (et_andM (et_notN (f := (eU D.int)) nn_U (ev_s rfl) rd_s) h5 (fun _ h => let ⟨z, h4, h⟩ := bindE h;   someE h ▸ (et_cmp (ev_len issq_t (ev_unw (f := (eU D.int)) (ev_s rfl) h4) rd_s (List.length_map _)) ev_c))) h (fun _ h => let ⟨z_1, h6, h⟩ := bindE h;   let ⟨z_2, h7, h⟩ := bindE h;   ⟨_, (someE h).symm, (ev_tup (ea_cons (ev_len issq_t (ev_unw (f := (eU D.int)) (ev_s rfl) h6) rd_s (List.length_map _)) (ea_cons (ev_unw (f := (eU D.int)) (ev_s rfl) h7) ea_nil)) rfl (Nat.le_of_ble_eq_true rfl))⟩))) mvr_va sq_o)) h9 ⟨_, _, _, _, _, _, _, _, _, jk_own, jk_own, jk_own, jk_un, jk_un, jk_un, jk_un, jk_un, jk_un, rfl⟩ (by rintro w q _ z pd' ⟨j0, j2, j3, j5, j6, j7, j8, j9, j10, hj0, hj2, hj3, hj5, hj6, hj7, hj8, hj9, hj10, rfl⟩ h hp; exact ⟨_, (st_nm rfl hj5), w_law_links_b1 edges q w j0 j2 j3 j6 j7 j8 j9 j10 hj0 hj2 hj3 hj6 hj7 hj8 hj9 hj10 hp h⟩) (by rintro _ ⟨j0, j2, j3, j5, j6, j7, j8, j9, j10, hj0, hj2, hj3, hj5, hj6, hj7, hj8, hj9, hj10, rfl⟩; exact nx_ law_links_8 (s_retM rfl (hp.rt (congrArg rt_law_links (someE h))))))))))))
theorem len_law_links : ∀ ds a, sp_law_links.pre ds a → ds.length = 3 := fun ds a ⟨h, _⟩ => by rw [h]; rfl
theorem pu_law_links (ds a) (pre : sp_law_links.pre ds a) : law_links_1 { nx := fun _ => sp_law_links.post a (.s .non), rt := fun t _ => sp_law_links.post a t } (startP N_law_links ds) := by
  obtain ⟨e, h⟩ := pre
  subst e
  obtain ⟨r, hr⟩ := Option.isSome_iff_exists.mp h
  exact w_law_links a.1 a.2.1 a.2.2 (fin_R (fn := fn_law_links) (enc := en_law_links) (RT := rt_law_links) (a := a) hr) hr
/-! _law_asked -/
abbrev Φ_law_asked_b1 (links : (List (Int × Int × Int))) (told : (List (Int × Int × Int))) : Unit → En → Prop := fun q e => ∃ j0 j1 j2 j4 j5 j7, Jk j0 ∧ Jk j1 ∧ Jk j2 ∧ Jk j4 ∧ Jk j5 ∧ Jk j7 ∧ e = [j0, j1, j2, .own none (sh (eL (eT3 D.int D.int D.int)) links), j4, j5, .own none (sh (eU (eT3 D.int D.int D.int)) told), j7]
theorem w_law_asked_b1 (links : (List (Int × Int × Int))) (told : (List (Int × Int × Int))) (k_v : Int) (j0 j1 j2 j4 j5 : Cell) (hj0 : Jk j0) (hj1 : Jk j1) (hj2 : Jk j2) (hj4 : Jk j4) (hj5 : Jk j5) {pd : PEnds} {z : (Ctl Unit Bool)} (hp : Fin (Φ_law_asked_b1 links told) RP_law_asked pd z) (h : law_asked_b1 links told k_v = some z) :
  law_asked_6 pd [j0, j1, j2, .own none (sh (eL (eT3 D.int D.int D.int)) links), j4, j5, .own none (sh (eU (eT3 D.int D.int D.int)) told), .own none (sh D.int k_v)] :=
  let ⟨e_v, h1, h⟩ := bindE h;   let ⟨e_v_1, h2, h⟩ := bindE h;   let ⟨v, h3, h⟩ := bindE h;   s_if (et_not (et_bl (ev_call (enc := en_law_numbers) (fn := fn_law_numbers) (RT := rt_law_numbers) (e_v, e_v_1) (ea_cons (ev_ix (f := (eT3 D.int D.int D.int)) issq_t (ev_s rfl) (ev_s rfl) h1) (ea_cons (ev_ix (f := (eT3 D.int D.int D.int)) issq_l (ev_s rfl) (ev_s rfl) h2) ea_nil)) (rl_cons rd_s (rl_cons rd_s rl_nil)) h3 (fun z => nomatch z)))) (fun h4 => let h := iteT h4 h;   s_ret ev_c rfl (hp.rt (someE h).symm rfl)) (fun h4 => let h := iteF h4 h;   s_nx (hp.nx (someE h).symm ⟨_, _, _, _, _, _, hj0, hj1, hj2, hj4, hj5, jk_own, rfl⟩))
theorem w_law_asked (nodes : Int) (edges : (List (List Int))) (start : Int) (links : (List (Int × Int × Int))) (form : Int) {pd : PEnds} {z : Bool} (hp : FinR rt_law_asked pd z) (h : law_asked nodes edges start links form = some z) :
  law_asked_1 pd [.own none (sh D.int nodes), .own none (sh (eL (eL D.int)) edges), .own none (sh D.int start), .own none (sh (eL (eT3 D.int D.int D.int)) links), .own none (sh D.int form), .un, .un, .un] :=
  sq (let ⟨v, h1, h⟩ := bindE h;   let ⟨handed, h2, h⟩ := bndE h;   s_asg (ev_call (enc := en_law_form) (fn := fn_law_form) (RT := rt_law_form) (edges, form) (ea_cons (ev_s rfl) (ea_cons (ev_s rfl) ea_nil)) (rl_cons rd_s (rl_cons rd_s rl_nil)) h1 (fun z => nomatch z)) (congrArg (sh (eQ (eQ D.int))) h2) rfl jk_un (nx_ law_asked_2 (sq (let ⟨v_1, h3, h⟩ := bindE h;   let ⟨told, h4, h⟩ := bndE h;   s_asg (ev_call (enc := en_spread) (fn := fn_spread) (RT := rt_spread) (nodes, handed, start) (ea_cons (ev_s rfl) (ea_cons (ev_s rfl) (ea_cons (ev_s rfl) ea_nil))) (rl_cons rd_s (rl_cons rd_s (rl_cons rd_s rl_nil))) h3 (fun z => nomatch z)) (congrArg (sh (eU (eT3 D.int D.int D.int))) h4) rfl jk_un (nx_ law_asked_3 (sq (let ⟨v_2, h5, h⟩ := bindE h;   s_if (et_or (et_neD (f := (eQ (eQ D.int))) (dq_Q (dq_Q dq_int)) ((sp_Q (sp_Q sp_int)) _) ((sp_Q (sp_Q sp_int)) _) (ev_s rfl) (ev_call (enc := en_law_form) (fn := fn_law_form) (RT := rt_law_form) (edges, form) (ea_cons (ev_s rfl) (ea_cons (ev_s rfl) ea_nil)) (rl_cons rd_s (rl_cons rd_s rl_nil)) h5 (fun z => nomatch z)) rd_s rd_s) (et_or (et_not (et_bl (ev_isi (ty := "tuple") (ev_s rfl) rd_s rfl))) (et_neD (f := D.int) dq_int (sp_int _) (sp_int _) (ev_len issq_t (ev_s rfl) rd_s (List.length_map _)) (ev_len issq_l (ev_s rfl) rd_s (List.length_map _)) rd_s rd_s))) (fun h8 => let h := iteT h8 h;   s_ret ev_c (congrArg rt_law_asked (someE h)) (hp.rt rfl)) (fun h8 => let h := iteF h8 h;   s_nx (nx_ law_asked_5 (sq (let ⟨h6, h⟩ := grdE h;   let ⟨c_v, h7, h⟩ := bindE h;   w_for (Φ_law_asked_b1 links told) RP_law_asked () (ei_rng1 (ev_len issq_l (ev_s rfl) rd_s (List.length_map _)) h6) h7 ⟨_, _, _, _, _, _, jk_own, jk_own, jk_own, jk_own, jk_own, jk_un, rfl⟩ (by rintro w q _ z pd' ⟨j0, j1, j2, j4, j5, j7, hj0, hj1, hj2, hj4, hj5, hj7, rfl⟩ h hp; exact ⟨_, (st_nm rfl hj7), w_law_asked_b1 links told w j0 j1 j2 j4 j5 hj0 hj1 hj2 hj4 hj5 hp h⟩) (by rintro r t e' rfl hr; exact hp.rt (hr.trans (congrArg rt_law_asked (someE h)))) (by rintro _ _ rfl ⟨j0, j1, j2, j4, j5, j7, hj0, hj1, hj2, hj4, hj5, hj7, rfl⟩; replace h := onNx h; exact nx_ law_asked_8 (s_ret ev_c (congrArg rt_law_asked (someE h)) (hp.rt rfl))))))))))))))
theorem len_law_asked : ∀ ds a, sp_law_asked.pre ds a → ds.length = 5 := fun ds a ⟨h, _⟩ => by rw [h]; rfl
theorem pu_law_asked (ds a) (pre : sp_law_asked.pre ds a) : law_asked_1 { nx := fun _ => sp_law_asked.post a (.s .non), rt := fun t _ => sp_law_asked.post a t } (startP N_law_asked ds) := by
  obtain ⟨e, h⟩ := pre
  subst e
  obtain ⟨r, hr⟩ := Option.isSome_iff_exists.mp h
  exact w_law_asked a.1 a.2.1 a.2.2.1 a.2.2.2.1 a.2.2.2.2 (fin_R (fn := fn_law_asked) (enc := en_law_asked) (RT := rt_law_asked) (a := a) hr) hr
/-! _law_path -/
theorem w_law_path_J1 (draw : (List Int)) (nodes : Int) (factor : Int) (j3 j4 j5 : Cell) (hj3 : Jk j3) (hj4 : Jk j4) (hj5 : Jk j5) {pd : PEnds} {z : (Int × (List Int) × (List (List Int)))} (hp : FinR rt_law_path pd z) (h : law_path_J1 draw nodes factor = some z) :
  law_path_5 pd [.own none (sh (eL D.int) draw), .own none (sh D.int nodes), .own none (sh D.int factor), j3, j4, j5] :=
  sq (let ⟨h1, h⟩ := grdE h;   let ⟨h5, h⟩ := grdE h;   let ⟨l, h6, h⟩ := bindE h;   let ⟨at_v, h7, h⟩ := bndE h;   s_asg (ev_fz (ev_lcO (f := D.int) (g := (sh D.int)) (ei_rng1 (ev_s rfl) h1) (.inr h5) h6 (fun i _ h => let ⟨h2, h⟩ := grdE h;   let ⟨e_v, h3, h⟩ := bindE h;   let ⟨h4, h⟩ := grdE h;   lct_yes (st_nm rfl jk_un) (someE h) (ev_mod (ev_int (ev_add (ev_mul (ev_s rfl) (ev_s rfl) h2) (ev_ix (f := D.int) issq_l (ev_s rfl) ev_c h3))) (ev_s rfl) h4))) ((er_oL er_sh) _)) (congrArg (sh (eL D.int)) h7) rfl hj3 (nx_ law_path_6 (sq (let ⟨h8, h⟩ := grdE h;   let ⟨h11, h⟩ := grdE h;   let ⟨l_1, h12, h⟩ := bindE h;   let ⟨edges, h13, h⟩ := bndE h;   s_asgF (ev_lcO (f := D.int) (g := (sh (eL D.int))) (ei_rng1 (ev_sub (ev_s rfl) ev_c) h8) (.inr h11) h12 (fun i_1 _ h => let ⟨e_v_1, h9, h⟩ := bindE h;   let ⟨e_v_2, h10, h⟩ := bindE h;   lct_yes (st_nm rfl jk_un) (someE h) (ev_fz (ev_sortL (f := D.int) (can_oth ord_int sp_int (fun _ => ⟨(fun z => nomatch z), fun _ z => nomatch z⟩)) (ev_lst (ts := List.map (sh D.int) [e_v_1, e_v_2]) (ea_cons (ev_ix (f := D.int) issq_l (ev_s rfl) (ev_s rfl) h9) (ea_cons (ev_ix (f := D.int) issq_l (ev_s rfl) (ev_add (ev_s rfl) ev_c) h10) ea_nil)) rfl (Nat.le_of_ble_eq_true rfl)) mvr_va sq_o) ((er_oL er_sh) _)))) (((er_oL er_sh) _).trans (congrArg (eL (eL D.int)) h13)) rfl hj4 (nx_ law_path_7 (let ⟨e_v_3, h14, h⟩ := bindE h;   let ⟨h15, h⟩ := grdE h;   s_ret (ev_fz (ev_lst (ts := [.s (D.int nodes), .s ((eL D.int) at_v), .s ((eL (eL D.int)) (repL edges ((1 : Int) + e_v_3)))]) (ea_cons (ev_s rfl) (ea_cons (ev_s rfl) (ea_cons (ev_fz (ev_rep (f := (eL D.int)) (ev_s rfl) (ev_add ev_c (ev_ix (f := D.int) issq_l (ev_s rfl) ev_c h14)) mvr_va sq_s h15) ((er_oL er_sh) _)) ea_nil))) rfl (Nat.le_of_ble_eq_true rfl)) rfl) (congrArg rt_law_path (someE h)) (hp.rt rfl)))))))
theorem w_law_path (draw : (List Int)) {pd : PEnds} {z : (Int × (List Int) × (List (List Int)))} (hp : FinR rt_law_path pd z) (h : law_path draw = some z) :
  law_path_1 pd [.own none (sh (eL D.int) draw), .un, .un, .un, .un, .un] :=
  sq (let ⟨e_v, h1, h⟩ := bindE h;   let ⟨nodes, h2, h⟩ := bndE h;   s_asg (ev_add ev_c (ev_ix (f := D.int) issq_l (ev_s rfl) ev_c h1)) (congrArg (sh D.int) h2) rfl jk_un (nx_ law_path_2 (sq (let ⟨e_v_1, h3, h⟩ := bindE h;   let ⟨e_v_2, h4, h⟩ := bindE h;   let ⟨factor, h5, h⟩ := bndE h;   s_asg (ev_ixO (f := D.int) (ev_lst (ts := List.map (sh D.int) [(1 : Int), (7 : Int), (11 : Int), (13 : Int)]) (ea_cons ev_c (ea_cons ev_c (ea_cons ev_c (ea_cons ev_c ea_nil)))) rfl (Nat.le_of_ble_eq_true rfl)) (ev_ix (f := D.int) issq_l (ev_s rfl) ev_c h3) h4) (congrArg (sh D.int) h5) rfl jk_un (nx_ law_path_3 (sq (let ⟨h6, h⟩ := grdE h;   s_if (et_eqD (f := D.int) dq_int (sp_int _) (sp_int _) (ev_mod (ev_int (ev_s rfl)) (ev_s rfl) h6) ev_c rd_s rd_s) (fun h8 => let h := iteT h8 h;   let ⟨factor_1, h7, h⟩ := bndE h;   s_asg ev_c (congrArg (sh D.int) h7) rfl jk_own (nx_ law_path_5 (w_law_path_J1 draw nodes factor_1 _ _ _ (jk_un) (jk_un) (jk_un) hp h))) (fun h8 => let h := iteF h8 h;   s_nx (nx_ law_path_5 (w_law_path_J1 draw nodes factor _ _ _ (jk_un) (jk_un) (jk_un) hp h))))))))))
theorem len_law_path : ∀ ds a, sp_law_path.pre ds a → ds.length = 1 := fun ds a ⟨h, _⟩ => by rw [h]; rfl
theorem pu_law_path (ds a) (pre : sp_law_path.pre ds a) : law_path_1 { nx := fun _ => sp_law_path.post a (.s .non), rt := fun t _ => sp_law_path.post a t } (startP N_law_path ds) := by
  obtain ⟨e, h⟩ := pre
  subst e
  obtain ⟨r, hr⟩ := Option.isSome_iff_exists.mp h
  exact w_law_path a (fin_R (fn := fn_law_path) (enc := en_law_path) (RT := rt_law_path) (a := a) hr) hr
/-! _law_both_ways -/
abbrev Φ_law_both_ways_b1 (at_v : (List Int)) (place : Int) (ways : (List (Int × Int))) : ((List (Int × Int × Int))) → En → Prop := fun q e => ∃ j4 j5 j6, Jk j4 ∧ Jk j5 ∧ Jk j6 ∧ e = [.own none (sh (eL D.int) at_v), .own none (sh D.int place), .own none (oL (sh (eT2 D.int D.int)) ways), .own none (oL (sh (eT3 D.int D.int D.int)) q), j4, j5, j6]
abbrev Φ_law_both_ways_b2 (at_v : (List Int)) (place : Int) (ways : (List (Int × Int))) (far : Int) : ((List (Int × Int × Int))) → En → Prop := fun q e => ∃ j5 j6, Jk j5 ∧ Jk j6 ∧ e = [.own none (sh (eL D.int) at_v), .own none (sh D.int place), .own none (oL (sh (eT2 D.int D.int)) ways), .own none (oL (sh (eT3 D.int D.int D.int)) q), .own none (sh D.int far), j5, j6]
theorem w_law_both_ways_b2 (at_v : (List Int)) (place : Int) (ways : (List (Int × Int))) (far : Int) (links : (List (Int × Int × Int))) (way : (Int × Int)) (j6 : Cell) (hj6 : Jk j6) {pd : PEnds} {z : ((List (Int × Int × Int)))} (hp : FinO (Φ_law_both_ways_b2 at_v place ways far) pd z) (h : law_both_ways_b2 at_v place far links way = some z) :
  law_both_ways_9 pd [.own none (sh (eL D.int) at_v), .own none (sh D.int place), .own none (oL (sh (eT2 D.int D.int)) ways), .own none (oL (sh (eT3 D.int D.int D.int)) links), .own none (sh D.int far), .own none (sh (eT2 D.int D.int) way), j6] :=
  sq (let ⟨h1, h⟩ := grdE h;   let ⟨here, h2, h⟩ := bndE h;   s_asg (ev_add (ev_s rfl) (ev_mul (ev_s rfl) (ev_ixD (j := 1) (d := D.int way.2) issq_t (ev_s rfl) ev_c rfl rfl) h1)) (congrArg (sh D.int) h2) rfl hj6 (nx_ law_both_ways_10 (s_if (et_chn ev_c (ev_add (ev_s rfl) (ev_ixD (j := 1) (d := D.int way.2) issq_t (ev_s rfl) ev_c rfl rfl)) (fun _ => (ev_len issq_l (ev_s rfl) rd_s (List.length_map _)))) (fun h7 => let h := iteT h7 h;   let ⟨e_v, h3, h⟩ := bindE h;   let ⟨e_v_1, h4, h⟩ := bindE h;   let ⟨h5, h⟩ := grdE h;   let ⟨links_1, h6, h⟩ := bndE h;   s_app (g := (sh (eT3 D.int D.int D.int))) rfl h5 (ev_tup (ea_cons (ev_ix (f := D.int) issq_l (ev_s rfl) (ev_s rfl) h3) (ea_cons (ev_min2 (ev_s rfl) (ev_add (ev_s rfl) (ev_ixD (j := 1) (d := D.int way.2) issq_t (ev_s rfl) ev_c rfl rfl))) (ea_cons (ev_ix (f := D.int) issq_l (ev_s rfl) (ev_add (ev_s rfl) (ev_ixD (j := 1) (d := D.int way.2) issq_t (ev_s rfl) ev_c rfl rfl)) h4) ea_nil))) rfl (Nat.le_of_ble_eq_true rfl)) rfl h6 (hp.nx (someE h) ⟨_, _, jk_own, jk_own, rfl⟩)) (fun h7 => let h := iteF h7 h;   s_nx (hp.nx (someE h) ⟨_, _, jk_own, jk_own, rfl⟩)))))
theorem w_law_both_ways_b1 (at_v : (List Int)) (place : Int) (ways : (List (Int × Int))) (links : (List (Int × Int × Int))) (far : Int) (j5 j6 : Cell) (hj5 : Jk j5) (hj6 : Jk j6) {pd : PEnds} {z : ((List (Int × Int × Int)))} (hp : FinO (Φ_law_both_ways_b1 at_v place ways) pd z) (h : law_both_ways_b1 at_v place ways links far = some z) :
  law_both_ways_8 pd [.own none (sh (eL D.int) at_v), .own none (sh D.int place), .own none (oL (sh (eT2 D.int D.int)) ways), .own none (oL (sh (eT3 D.int D.int D.int)) links), .own none (sh D.int far), j5, j6] :=
  let ⟨links_1, h1, h⟩ := bindE h;   w_forO (Φ_law_both_ways_b2 at_v place ways far) links (ei_seqO (f := (eT2 D.int D.int)) er_sh (ev_sortL (f := (eT2 D.int D.int)) (can_tup (ord_T2 ord_int ord_int dq_int dq_int irr_int) (sp_T2 sp_int sp_int) (fun _ => ⟨_, _, rfl⟩)) (ev_b rfl) (mv_b (look_own rfl) flat_oL) sq_o)) h1 ⟨_, _, hj5, hj6, rfl⟩ (by rintro w q _ z pd' ⟨j5, j6, hj5, hj6, rfl⟩ h hp; exact ⟨_, (st_nm rfl hj5), w_law_both_ways_b2 at_v place ways far q w j6 hj6 hp h⟩) (by rintro _ ⟨j5, j6, hj5, hj6, rfl⟩; exact hp.nx (someE h) ⟨_, _, _, jk_own, hj5, hj6, rfl⟩)
theorem w_law_both_ways_J2 (at_v : (List Int)) (place : Int) (ways : (List (Int × Int))) (j3 j4 j5 j6 : Cell) (hj3 : Jk j3) (hj4 : Jk j4) (hj5 : Jk j5) (hj6 : Jk j6) {pd : PEnds} {z : (List (Int × Int × Int))} (hp : FinR rt_law_both_ways pd z) (h : law_both_ways_J2 at_v place ways = some z) :
  law_both_ways_6 pd [.own none (sh (eL D.int) at_v), .own none (sh D.int place), .own none (oL (sh (eT2 D.int D.int)) ways), j3, j4, j5, j6] :=
  sq (let ⟨links, h1, h⟩ := bndE h;   s_asg (ev_lst (ts := List.map (sh (eT3 D.int D.int D.int)) ([] : List (Int × Int × Int))) ea_nil rfl (Nat.le_of_ble_eq_true rfl)) (congrArg (oL (sh (eT3 D.int D.int D.int))) h1) rfl hj3 (nx_ law_both_ways_7 (sq (let ⟨h2, h⟩ := grdE h;   let ⟨links_1, h3, h⟩ := bindE h;   w_forO (Φ_law_both_ways_b1 at_v place ways) links (ei_rng1 (ev_len issq_l (ev_s rfl) rd_s (List.length_map _)) h2) h3 ⟨_, _, _, hj4, hj5, hj6, rfl⟩ (by rintro w q _ z pd' ⟨j4, j5, j6, hj4, hj5, hj6, rfl⟩ h hp; exact ⟨_, (st_nm rfl hj4), w_law_both_ways_b1 at_v place ways q w j5 j6 hj5 hj6 hp h⟩) (by rintro _ ⟨j4, j5, j6, hj4, hj5, hj6, rfl⟩; exact nx_ law_both_ways_12 (s_retM rfl (hp.rt (congrArg rt_law_both_ways (someE h)))))))))
theorem w_law_both_ways_J1 (at_v : (List Int)) (place : Int) (ways : (List (Int × Int))) (j3 j4 j5 j6 : Cell) (hj3 : Jk j3) (hj4 : Jk j4) (hj5 : Jk j5) (hj6 : Jk j6) {pd : PEnds} {z : (List (Int × Int × Int))} (hp : FinR rt_law_both_ways pd z) (h : law_both_ways_J1 at_v place ways = some z) :
  law_both_ways_4 pd [.own none (sh (eL D.int) at_v), .own none (sh D.int place), .own none (oL (sh (eT2 D.int D.int)) ways), j3, j4, j5, j6] :=
  sq (s_if (et_cmp (ev_s rfl) (ev_sub (ev_len issq_l (ev_s rfl) rd_s (List.length_map _)) ev_c)) (fun h4 => let h := iteT h4 h;   let ⟨e_v, h1, h⟩ := bindE h;   let ⟨h2, h⟩ := grdE h;   let ⟨ways_1, h3, h⟩ := bndE h;   s_app (g := (sh (eT2 D.int D.int))) rfl h2 (ev_tup (ea_cons (ev_ix (f := D.int) issq_l (ev_s rfl) (ev_add (ev_s rfl) ev_c) h1) (ea_cons ev_c ea_nil)) rfl (Nat.le_of_ble_eq_true rfl)) rfl h3 (nx_ law_both_ways_6 (w_law_both_ways_J2 at_v place ways_1 _ _ _ _ (hj3) (hj4) (hj5) (hj6) hp h))) (fun h4 => let h := iteF h4 h;   s_nx (nx_ law_both_ways_6 (w_law_both_ways_J2 at_v place ways _ _ _ _ (hj3) (hj4) (hj5) (hj6) hp h))))
theorem w_law_both_ways (at_v : (List Int)) (place : Int) {pd : PEnds} {z : (List (Int × Int × Int))} (hp : FinR rt_law_both_ways pd z) (h : law_both_ways at_v place = some z) :
  law_both_ways_1 pd [.own none (sh (eL D.int) at_v), .own none (sh D.int place), .un, .un, .un, .un, .un] :=
  sq (let ⟨ways, h1, h⟩ := bndE h;   s_asg (ev_lst (ts := List.map (sh (eT2 D.int D.int)) ([] : List (Int × Int))) ea_nil rfl (Nat.le_of_ble_eq_true rfl)) (congrArg (oL (sh (eT2 D.int D.int))) h1) rfl jk_un (nx_ law_both_ways_2 (sq (s_if (et_cmp (ev_s rfl) ev_c) (fun h5 => let h := iteT h5 h;   let ⟨e_v, h2, h⟩ := bindE h;   let ⟨h3, h⟩ := grdE h;   let ⟨ways_1, h4, h⟩ := bndE h;   s_app (g := (sh (eT2 D.int D.int))) rfl h3 (ev_tup (ea_cons (ev_ix (f := D.int) issq_l (ev_s rfl) (ev_sub (ev_s rfl) ev_c) h2) (ea_cons (ev_neg ev_c) ea_nil)) rfl (Nat.le_of_ble_eq_true rfl)) rfl h4 (nx_ law_both_ways_4 (w_law_both_ways_J1 at_v place ways_1 _ _ _ _ (jk_un) (jk_un) (jk_un) (jk_un) hp h))) (fun h5 => let h := iteF h5 h;   s_nx (nx_ law_both_ways_4 (w_law_both_ways_J1 at_v place ways _ _ _ _ (jk_un) (jk_un) (jk_un) (jk_un) hp h)))))))
theorem len_law_both_ways : ∀ ds a, sp_law_both_ways.pre ds a → ds.length = 2 := fun ds a ⟨h, _⟩ => by rw [h]; rfl
theorem pu_law_both_ways (ds a) (pre : sp_law_both_ways.pre ds a) : law_both_ways_1 { nx := fun _ => sp_law_both_ways.post a (.s .non), rt := fun t _ => sp_law_both_ways.post a t } (startP N_law_both_ways ds) := by
  obtain ⟨e, h⟩ := pre
  subst e
  obtain ⟨r, hr⟩ := Option.isSome_iff_exists.mp h
  exact w_law_both_ways a.1 a.2 (fin_R (fn := fn_law_both_ways) (enc := en_law_both_ways) (RT := rt_law_both_ways) (a := a) hr) hr
/-! law -/
abbrev Φ_law_b1 (draw : (List Int)) (nodes : Int) (edges : (List (List Int))) (starts : (List Int)) : Unit → En → Prop := fun q e => ∃ j0 j2 j3 j4 j8 j9 j10 j11 j12, Jk j0 ∧ Jk j2 ∧ Jk j3 ∧ Jk j4 ∧ Jk j8 ∧ Jk j9 ∧ Jk j10 ∧ Jk j11 ∧ Jk j12 ∧ e = [j0, .own none (sh (eL D.int) draw), j2, j3, j4, .own none (sh D.int nodes), .own none (sh (eL (eL D.int)) edges), .own none (sh (eL D.int) starts), j8, j9, j10, j11, j12]
theorem w_law_b1 (draw : (List Int)) (nodes : Int) (edges : (List (List Int))) (starts : (List Int)) (start : Int) (j0 j2 j3 j4 j9 j10 j11 j12 : Cell) (hj0 : Jk j0) (hj2 : Jk j2) (hj3 : Jk j3) (hj4 : Jk j4) (hj9 : Jk j9) (hj10 : Jk j10) (hj11 : Jk j11) (hj12 : Jk j12) {pd : PEnds} {z : (Ctl Unit Bool)} (hp : Fin (Φ_law_b1 draw nodes edges starts) RP_law pd z) (h : law_b1 draw nodes edges start = some z) :
  law_13 pd [j0, .own none (sh (eL D.int) draw), j2, j3, j4, .own none (sh D.int nodes), .own none (sh (eL (eL D.int)) edges), .own none (sh (eL D.int) starts), .own none (sh D.int start), j9, j10, j11, j12] :=
  let ⟨v, h1, h⟩ := bindE h;   let ⟨e_v, h2, h⟩ := bindE h;   let ⟨v_1, h3, h⟩ := bindE h;   s_if (et_not (et_bl (ev_call (enc := en_law_asked) (fn := fn_law_asked) (RT := rt_law_asked) (nodes, edges, start, v, e_v) (ea_cons (ev_s rfl) (ea_cons (ev_s rfl) (ea_cons (ev_s rfl) (ea_cons (ev_call (enc := en_law_links) (fn := fn_law_links) (RT := rt_law_links) (nodes, edges, start) (ea_cons (ev_s rfl) (ea_cons (ev_s rfl) (ea_cons (ev_s rfl) ea_nil))) (rl_cons rd_s (rl_cons rd_s (rl_cons rd_s rl_nil))) h1 (fun z => nomatch z)) (ea_cons (ev_ix (f := D.int) issq_l (ev_s rfl) ev_c h2) ea_nil))))) (rl_cons rd_s (rl_cons rd_s (rl_cons rd_s (rl_cons (rd_o (er_oL er_sh)) (rl_cons rd_s rl_nil))))) h3 (fun z => nomatch z)))) (fun h4 => let h := iteT h4 h;   s_ret ev_c rfl (hp.rt (someE h).symm rfl)) (fun h4 => let h := iteF h4 h;   s_nx (hp.nx (someE h).symm ⟨_, _, _, _, _, _, _, _, _, hj0, hj2, hj3, hj4, jk_own, hj9, hj10, hj11, hj12, rfl⟩))
theorem w_law_J1 (draw : (List Int)) (nodes : Int) (edges : (List (List Int))) (starts : (List Int)) (j0 j2 j3 j4 j8 j9 j10 j11 j12 : Cell) (hj0 : Jk j0) (hj2 : Jk j2) (hj3 : Jk j3) (hj4 : Jk j4) (hj8 : Jk j8) (hj9 : Jk j9) (hj10 : Jk j10) (hj11 : Jk j11) (hj12 : Jk j12) {pd : PEnds} {z : Bool} (hp : FinR rt_law pd z) (h : law_J1 draw nodes edges starts = some z) :
  law_12 pd [j0, .own none (sh (eL D.int) draw), j2, j3, j4, .own none (sh D.int nodes), .own none (sh (eL (eL D.int)) edges), .own none (sh (eL D.int) starts), j8, j9, j10, j11, j12] :=
  sq (let ⟨h1, h⟩ := grdE h;   let ⟨c_v, h2, h⟩ := bindE h;   w_for (Φ_law_b1 draw nodes edges starts) RP_law () (ei_seqO (f := D.int) er_sh (ev_cat2 (f := D.int) (ev_s rfl) (ev_slL (f := D.int) (ev_s rfl) mvr_va sq_s eo_no (eo_part ev_c)) mvr_va mvr_va sq_s sq_o h1)) h2 ⟨_, _, _, _, _, _, _, _, _, hj0, hj2, hj3, hj4, hj8, hj9, hj10, hj11, hj12, rfl⟩ (by rintro w q _ z pd' ⟨j0, j2, j3, j4, j8, j9, j10, j11, j12, hj0, hj2, hj3, hj4, hj8, hj9, hj10, hj11, hj12, rfl⟩ h hp; exact ⟨_, (st_nm rfl hj8), w_law_b1 draw nodes edges starts w j0 j2 j3 j4 j9 j10 j11 j12 hj0 hj2 hj3 hj4 hj9 hj10 hj11 hj12 hp h⟩) (by rintro r t e' rfl hr; exact hp.rt (hr.trans (congrArg rt_law (someE h)))) (by rintro _ _ rfl ⟨j0, j2, j3, j4, j8, j9, j10, j11, j12, hj0, hj2, hj3, hj4, hj8, hj9, hj10, hj11, hj12, rfl⟩; replace h := onNx h; exact nx_ law_15 (sq (let ⟨opposite, h3, h⟩ := bndE h;   s_asg (ev_fz (ev_rev (f := (eL D.int)) (ev_s rfl) mvr_va sq_s) ((er_oL er_sh) _)) (congrArg (sh (eL (eL D.int))) h3) rfl hj9 (nx_ law_16 (sq (let ⟨e_v, h4, h⟩ := bindE h;   let ⟨last, h5, h⟩ := bndE h;   s_asg (ev_ix (f := D.int) issq_l (ev_s rfl) (ev_sub (ev_len issq_l (ev_s rfl) rd_s (List.length_map _)) ev_c) h4) (congrArg (sh D.int) h5) rfl hj10 (nx_ law_17 (sq (let ⟨v, h6, h⟩ := bindE h;   let ⟨e_v_1, h7, h⟩ := bindE h;   let ⟨v_1, h8, h⟩ := bindE h;   s_if (et_not (et_bl (ev_call (enc := en_law_asked) (fn := fn_law_asked) (RT := rt_law_asked) (nodes, opposite, last, v, ((3 : Int) - e_v_1)) (ea_cons (ev_s rfl) (ea_cons (ev_s rfl) (ea_cons (ev_s rfl) (ea_cons (ev_call (enc := en_law_links) (fn := fn_law_links) (RT := rt_law_links) (nodes, opposite, last) (ea_cons (ev_s rfl) (ea_cons (ev_s rfl) (ea_cons (ev_s rfl) ea_nil))) (rl_cons rd_s (rl_cons rd_s (rl_cons rd_s rl_nil))) h6 (fun z => nomatch z)) (ea_cons (ev_sub ev_c (ev_ix (f := D.int) issq_l (ev_s rfl) ev_c h7)) ea_nil))))) (rl_cons rd_s (rl_cons rd_s (rl_cons rd_s (rl_cons (rd_o (er_oL er_sh)) (rl_cons rd_s rl_nil))))) h8 (fun z => nomatch z)))) (fun h14 => let h := iteT h14 h;   s_ret ev_c (congrArg rt_law (someE h)) (hp.rt rfl)) (fun h14 => let h := iteF h14 h;   s_nx (nx_ law_19 (let ⟨e_v_2, h9, h⟩ := bindE h;   let ⟨e_v_3, h10, h⟩ := bindE h;   let ⟨v_2, h11, h⟩ := bindE h;   let ⟨e_v_4, h12, h⟩ := bindE h;   let ⟨v_3, h13, h⟩ := bindE h;   s_ret (ev_call (enc := en_law_asked) (fn := fn_law_asked) (RT := rt_law_asked) (nodes, edges, e_v_2, v_2, e_v_4) (ea_cons (ev_s rfl) (ea_cons (ev_s rfl) (ea_cons (ev_ix (f := D.int) issq_l (ev_s rfl) ev_c h9) (ea_cons (ev_call (enc := en_law_links) (fn := fn_law_links) (RT := rt_law_links) (nodes, edges, e_v_3) (ea_cons (ev_s rfl) (ea_cons (ev_s rfl) (ea_cons (ev_ix (f := D.int) issq_l (ev_s rfl) ev_c h10) ea_nil))) (rl_cons rd_s (rl_cons rd_s (rl_cons rd_s rl_nil))) h11 (fun z => nomatch z)) (ea_cons (ev_ix (f := D.int) issq_l (ev_s rfl) ev_c h12) ea_nil))))) (rl_cons rd_s (rl_cons rd_s (rl_cons rd_s (rl_cons (rd_o (er_oL er_sh)) (rl_cons rd_s rl_nil))))) h13 (fun z => nomatch z)) (congrArg rt_law (someE h)) (hp.rt rfl))))))))))))))
theorem w_law (script : (List Int)) {pd : PEnds} {z : Bool} (hp : FinR rt_law pd z) (h : law script = some z) :
  law_1 pd [.own none (sh (eR D.int) script), .un, .un, .un, .un, .un, .un, .un, .un, .un, .un, .un, .un] :=
  sq (let ⟨v, h1, h⟩ := bindE h;   let ⟨v_1, h2, h⟩ := bindE h;   let ⟨draw, h3, h⟩ := bndE h;   s_asg (ev_fz (ev_call (enc := en_law_digits) (fn := fn_law_digits) (RT := rt_law_digits) (v, [(64 : Int), (3001 : Int), (4 : Int), (9000 : Int), (5 : Int), (12000 : Int), (4 : Int), (60 : Int), (60 : Int), (60 : Int)]) (ea_cons (ev_call (enc := en_law_cell) (fn := fn_law_cell) (RT := rt_law_cell) (script, (10 : Int)) (ea_cons (ev_s rfl) (ea_cons ev_c ea_nil)) (rl_cons rd_s (rl_cons rd_s rl_nil)) h1 (fun z => nomatch z)) (ea_cons (ev_lst (ts := List.map (sh D.int) [(64 : Int), (3001 : Int), (4 : Int), (9000 : Int), (5 : Int), (12000 : Int), (4 : Int), (60 : Int), (60 : Int), (60 : Int)]) (ea_cons ev_c (ea_cons ev_c (ea_cons ev_c (ea_cons ev_c (ea_cons ev_c (ea_cons ev_c (ea_cons ev_c (ea_cons ev_c (ea_cons ev_c (ea_cons ev_c ea_nil)))))))))) rfl (Nat.le_of_ble_eq_true rfl)) ea_nil)) (rl_cons rd_s (rl_cons (rd_o (er_oL er_sh)) rl_nil)) h2 (fun z => nomatch z)) ((er_oL er_sh) _)) (congrArg (sh (eL D.int)) h3) rfl jk_un (nx_ law_2 (sq (let ⟨e_v, h4, h⟩ := bindE h;   s_if (et_eqD (f := D.int) dq_int (sp_int _) (sp_int _) (ev_ix (f := D.int) issq_l (ev_s rfl) ev_c h4) ev_c rd_s rd_s) (fun h27 => let h := iteT h27 h;   sq (let ⟨v_2, h5, h⟩ := bindE h;   let ⟨path, h6, h⟩ := bndE h;   s_asg (ev_call (enc := en_law_path) (fn := fn_law_path) (RT := rt_law_path) draw (ea_cons (ev_s rfl) ea_nil) (rl_cons rd_s rl_nil) h5 (fun z => nomatch z)) (congrArg (sh (eS3 D.int (eL D.int) (eL (eL D.int)))) h6) rfl jk_un (nx_ law_4 (sq (let ⟨e_v_1, h7, h⟩ := bindE h;   let ⟨h8, h⟩ := grdE h;   let ⟨place, h9, h⟩ := bndE h;   s_asg (ev_mod (ev_int (ev_ix (f := D.int) issq_l (ev_s rfl) ev_c h7)) (ev_ixD (j := 0) (d := D.int path.1) issq_l (ev_s rfl) ev_c rfl rfl) h8) (congrArg (sh D.int) h9) rfl jk_un (nx_ law_5 (let ⟨e_v_2, h10, h⟩ := bindE h;   let ⟨v_3, h11, h⟩ := bindE h;   let ⟨e_v_3, h12, h⟩ := bindE h;   let ⟨v_4, h13, h⟩ := bindE h;   s_ret (ev_call (enc := en_law_asked) (fn := fn_law_asked) (RT := rt_law_asked) (path.1, path.2.2, e_v_2, v_3, e_v_3) (ea_cons (ev_ixD (j := 0) (d := D.int path.1) issq_l (ev_s rfl) ev_c rfl rfl) (ea_cons (ev_ixD (j := 2) (d := (eL (eL D.int)) path.2.2) issq_l (ev_s rfl) ev_c rfl rfl) (ea_cons (ev_ix (f := D.int) issq_l (ev_ixD (j := 1) (d := (eL D.int) path.2.1) issq_l (ev_s rfl) ev_c rfl rfl) (ev_s rfl) h10) (ea_cons (ev_call (enc := en_law_both_ways) (fn := fn_law_both_ways) (RT := rt_law_both_ways) (path.2.1, place) (ea_cons (ev_ixD (j := 1) (d := (eL D.int) path.2.1) issq_l (ev_s rfl) ev_c rfl rfl) (ea_cons (ev_s rfl) ea_nil)) (rl_cons rd_s (rl_cons rd_s rl_nil)) h11 (fun z => nomatch z)) (ea_cons (ev_ix (f := D.int) issq_l (ev_s rfl) ev_c h12) ea_nil))))) (rl_cons rd_s (rl_cons rd_s (rl_cons rd_s (rl_cons (rd_o (er_oL er_sh)) (rl_cons rd_s rl_nil))))) h13 (fun z => nomatch z)) (congrArg rt_law (someE h)) (hp.rt rfl)))))))) (fun h27 => let h := iteF h27 h;   s_nx (nx_ law_6 (sq (let ⟨v_5, h14, h⟩ := bindE h;   let ⟨net, h15, h⟩ := bndE h;   s_asg (ev_call (enc := en_law_net) (fn := fn_law_net) (RT := rt_law_net) (script, (0 : Int)) (ea_cons (ev_s rfl) (ea_cons ev_c ea_nil)) (rl_cons rd_s (rl_cons rd_s rl_nil)) h14 (fun z => nomatch z)) (congrArg (sh (eS2 D.int (eL (eL D.int)))) h15) rfl jk_un (nx_ law_7 (sq (let ⟨nodes, h16, h⟩ := bndE h;   s_asg (ev_ixD (j := 0) (d := D.int net.1) issq_l (ev_s rfl) ev_c rfl rfl) (congrArg (sh D.int) h16) rfl jk_un (nx_ law_8 (sq (let ⟨edges, h17, h⟩ := bndE h;   s_asg (ev_ixD (j := 1) (d := (eL (eL D.int)) net.2) issq_l (ev_s rfl) ev_c rfl rfl) (congrArg (sh (eL (eL D.int))) h17) rfl jk_un (nx_ law_9 (sq (let ⟨h18, h⟩ := grdE h;   let ⟨h19, h⟩ := grdE h;   let ⟨starts, h20, h⟩ := bndE h;   s_asgF (ev_eq (ev_lcM (f := D.int) (y := fun (i : Int) => i) (g := (sh D.int)) (ei_rng1 (ev_s rfl) h18) (.inr h19) (fun i => ⟨_, (st_nm rfl jk_un), (ev_s rfl)⟩)) (congrArg (fun z => R.va (oL (sh D.int) z)) (List.map_id' _))) (((er_oL er_sh) _).trans (congrArg (eL D.int) h20)) rfl jk_un (nx_ law_10 (sq (s_if (et_cmp (ev_s rfl) ev_c) (fun h26 => let h := iteT h26 h;   let ⟨h23, h⟩ := grdE h;   let ⟨l, h24, h⟩ := bindE h;   let ⟨starts_1, h25, h⟩ := bndE h;   s_asgF (ev_lcO (f := D.int) (g := (sh D.int)) (ei_rng1 ev_c (by decide)) (.inr h23) h24 (fun i_1 _ h => let ⟨e_v_4, h21, h⟩ := bindE h;   let ⟨h22, h⟩ := grdE h;   lct_yes (st_nm rfl jk_un) (someE h) (ev_mod (ev_int (ev_ix (f := D.int) issq_l (ev_s rfl) (ev_add ev_c (ev_s rfl)) h21)) (ev_s rfl) h22))) (((er_oL er_sh) _).trans (congrArg (eL D.int) h25)) rfl jk_own (nx_ law_12 (w_law_J1 draw nodes edges starts_1 _ _ _ _ _ _ _ _ _ (jk_own) (jk_un) (jk_un) (jk_own) (jk_un) (jk_un) (jk_un) (jk_un) (jk_un) hp h))) (fun h26 => let h := iteF h26 h;   s_nx (nx_ law_12 (w_law_J1 draw nodes edges starts _ _ _ _ _ _ _ _ _ (jk_own) (jk_un) (jk_un) (jk_own) (jk_un) (jk_un) (jk_un) (jk_un) (jk_un) hp h)))))))))))))))))))))))
theorem len_law : ∀ ds a, sp_law.pre ds a → ds.length = 1 := fun ds a ⟨h, _⟩ => by rw [h]; rfl
theorem pu_law (ds a) (pre : sp_law.pre ds a) : law_1 { nx := fun _ => sp_law.post a (.s .non), rt := fun t _ => sp_law.post a t } (startP N_law ds) := by
  obtain ⟨e, h⟩ := pre
  subst e
  obtain ⟨r, hr⟩ := Option.isSome_iff_exists.mp h
  exact w_law a (fin_R (fn := fn_law) (enc := en_law) (RT := rt_law) (a := a) hr) hr
end K02

namespace K02
open PySem L2 PL
def topS (i : Nat) : Stmt := PySem.Challenge.pw_whywait_k02_spread_whole.main.body.getD i (.Pass ⟨0, 0, 0, 0⟩)
abbrev s_touching : Stmt := topS 1
theorem sc_touching : FnScope N_touching ["nodes", "edges"] (defScope s_touching) := ⟨rfl, rfl, rfl, by decide +kernel, rfl, by decide +kernel, by decide +kernel⟩
abbrev s_fresh_neighbours : Stmt := topS 2
theorem sc_fresh_neighbours : FnScope N_fresh_neighbours ["node", "edges", "holders", "used", "reached"] (defScope s_fresh_neighbours) := ⟨rfl, rfl, rfl, by decide +kernel, rfl, by decide +kernel, by decide +kernel⟩
abbrev s_spread : Stmt := topS 3
theorem sc_spread : FnScope N_spread ["nodes", "edges", "start"] (defScope s_spread) := ⟨rfl, rfl, rfl, by decide +kernel, rfl, by decide +kernel, by decide +kernel⟩
abbrev s_law_whole : Stmt := topS 5
theorem sc_law_whole : FnScope N_law_whole ["value"] (defScope s_law_whole) := ⟨rfl, rfl, rfl, by decide +kernel, rfl, by decide +kernel, by decide +kernel⟩
abbrev s_law_cell : Stmt := topS 6
theorem sc_law_cell : FnScope N_law_cell ["script", "k"] (defScope s_law_cell) := ⟨rfl, rfl, rfl, by decide +kernel, rfl, by decide +kernel, by decide +kernel⟩
abbrev s_law_digits : Stmt := topS 7
theorem sc_law_digits : FnScope N_law_digits ["cell", "sizes"] (defScope s_law_digits) := ⟨rfl, rfl, rfl, by decide +kernel, rfl, by decide +kernel, by decide +kernel⟩
abbrev s_law_held : Stmt := topS 8
theorem sc_law_held : FnScope N_law_held ["nodes", "chosen"] (defScope s_law_held) := ⟨rfl, rfl, rfl, by decide +kernel, rfl, by decide +kernel, by decide +kernel⟩
abbrev s_law_small_edge : Stmt := topS 9
theorem sc_law_small_edge : FnScope N_law_small_edge ["cell", "nodes", "edges", "loose"] (defScope s_law_small_edge) := ⟨rfl, rfl, rfl, by decide +kernel, rfl, by decide +kernel, by decide +kernel⟩
abbrev s_law_wide_edges : Stmt := topS 10
theorem sc_law_wide_edges : FnScope N_law_wide_edges ["cell", "nodes"] (defScope s_law_wide_edges) := ⟨rfl, rfl, rfl, by decide +kernel, rfl, by decide +kernel, by decide +kernel⟩
abbrev s_law_net : Stmt := topS 11
theorem sc_law_net : FnScope N_law_net ["script", "at"] (defScope s_law_net) := ⟨rfl, rfl, rfl, by decide +kernel, rfl, by decide +kernel, by decide +kernel⟩
abbrev s_law_form : Stmt := topS 12
theorem sc_law_form : FnScope N_law_form ["rows", "form"] (defScope s_law_form) := ⟨rfl, rfl, rfl, by decide +kernel, rfl, by decide +kernel, by decide +kernel⟩
abbrev s_law_numbers : Stmt := topS 13
theorem sc_law_numbers : FnScope N_law_numbers ["told", "due"] (defScope s_law_numbers) := ⟨rfl, rfl, rfl, by decide +kernel, rfl, by decide +kernel, by decide +kernel⟩
abbrev s_law_rows : Stmt := topS 14
theorem sc_law_rows : FnScope N_law_rows ["nodes", "edges", "start"] (defScope s_law_rows) := ⟨rfl, rfl, rfl, by decide +kernel, rfl, by decide +kernel, by decide +kernel⟩
abbrev s_law_links : Stmt := topS 15
theorem sc_law_links : FnScope N_law_links ["nodes", "edges", "start"] (defScope s_law_links) := ⟨rfl, rfl, rfl, by decide +kernel, rfl, by decide +kernel, by decide +kernel⟩
abbrev s_law_asked : Stmt := topS 16
theorem sc_law_asked : FnScope N_law_asked ["nodes", "edges", "start", "links", "form"] (defScope s_law_asked) := ⟨rfl, rfl, rfl, by decide +kernel, rfl, by decide +kernel, by decide +kernel⟩
abbrev s_law_path : Stmt := topS 17
theorem sc_law_path : FnScope N_law_path ["draw"] (defScope s_law_path) := ⟨rfl, rfl, rfl, by decide +kernel, rfl, by decide +kernel, by decide +kernel⟩
abbrev s_law_both_ways : Stmt := topS 18
theorem sc_law_both_ways : FnScope N_law_both_ways ["at", "place"] (defScope s_law_both_ways) := ⟨rfl, rfl, rfl, by decide +kernel, rfl, by decide +kernel, by decide +kernel⟩
abbrev s_law : Stmt := topS 19
theorem sc_law : FnScope N_law ["script"] (defScope s_law) := ⟨rfl, rfl, rfl, by decide +kernel, rfl, by decide +kernel, by decide +kernel⟩
structure Txt (K : PySem.W.Frag) (mg : Str → Option Value) where
  len : mg "len" = none
  int : mg "int" = none
  abs : mg "abs" = none
  sum : mg "sum" = none
  min : mg "min" = none
  max : mg "max" = none
  list : mg "list" = none
  tuple : mg "tuple" = none
  sorted : mg "sorted" = none
  isinstance : mg "isinstance" = none
  range : mg "range" = none
  set : mg "set" = none
  bool : mg "bool" = none
  str : mg "str" = none
  dict : mg "dict" = none
  enumerate : mg "enumerate" = none
  f_touching : Addr
  d_touching : FuncData
  F_touching : Fun K "touching" "touching" s_touching f_touching d_touching
  m_touching : mg "touching" = some (.ref f_touching)
  b_touching : Binds K d_touching ["nodes", "edges"] []
  f_fresh_neighbours : Addr
  d_fresh_neighbours : FuncData
  F_fresh_neighbours : Fun K "fresh_neighbours" "fresh_neighbours" s_fresh_neighbours f_fresh_neighbours d_fresh_neighbours
  m_fresh_neighbours : mg "fresh_neighbours" = some (.ref f_fresh_neighbours)
  b_fresh_neighbours : Binds K d_fresh_neighbours ["node", "edges", "holders", "used", "reached"] []
  f_spread : Addr
  d_spread : FuncData
  F_spread : Fun K "spread" "spread" s_spread f_spread d_spread
  m_spread : mg "spread" = some (.ref f_spread)
  b_spread : Binds K d_spread ["nodes", "edges", "start"] []
  f_law_whole : Addr
  d_law_whole : FuncData
  F_law_whole : Fun K "_law_whole" "_law_whole" s_law_whole f_law_whole d_law_whole
  m_law_whole : mg "_law_whole" = some (.ref f_law_whole)
  b_law_whole : Binds K d_law_whole ["value"] []
  f_law_cell : Addr
  d_law_cell : FuncData
  F_law_cell : Fun K "_law_cell" "_law_cell" s_law_cell f_law_cell d_law_cell
  m_law_cell : mg "_law_cell" = some (.ref f_law_cell)
  b_law_cell : Binds K d_law_cell ["script", "k"] []
  f_law_digits : Addr
  d_law_digits : FuncData
  F_law_digits : Fun K "_law_digits" "_law_digits" s_law_digits f_law_digits d_law_digits
  m_law_digits : mg "_law_digits" = some (.ref f_law_digits)
  b_law_digits : Binds K d_law_digits ["cell", "sizes"] []
  f_law_held : Addr
  d_law_held : FuncData
  F_law_held : Fun K "_law_held" "_law_held" s_law_held f_law_held d_law_held
  m_law_held : mg "_law_held" = some (.ref f_law_held)
  b_law_held : Binds K d_law_held ["nodes", "chosen"] []
  f_law_small_edge : Addr
  d_law_small_edge : FuncData
  F_law_small_edge : Fun K "_law_small_edge" "_law_small_edge" s_law_small_edge f_law_small_edge d_law_small_edge
  m_law_small_edge : mg "_law_small_edge" = some (.ref f_law_small_edge)
  b_law_small_edge : Binds K d_law_small_edge ["cell", "nodes", "edges", "loose"] []
  f_law_wide_edges : Addr
  d_law_wide_edges : FuncData
  F_law_wide_edges : Fun K "_law_wide_edges" "_law_wide_edges" s_law_wide_edges f_law_wide_edges d_law_wide_edges
  m_law_wide_edges : mg "_law_wide_edges" = some (.ref f_law_wide_edges)
  b_law_wide_edges : Binds K d_law_wide_edges ["cell", "nodes"] []
  f_law_net : Addr
  d_law_net : FuncData
  F_law_net : Fun K "_law_net" "_law_net" s_law_net f_law_net d_law_net
  m_law_net : mg "_law_net" = some (.ref f_law_net)
  b_law_net : Binds K d_law_net ["script", "at"] []
  f_law_form : Addr
  d_law_form : FuncData
  F_law_form : Fun K "_law_form" "_law_form" s_law_form f_law_form d_law_form
  m_law_form : mg "_law_form" = some (.ref f_law_form)
  b_law_form : Binds K d_law_form ["rows", "form"] []
  f_law_numbers : Addr
  d_law_numbers : FuncData
  F_law_numbers : Fun K "_law_numbers" "_law_numbers" s_law_numbers f_law_numbers d_law_numbers
  m_law_numbers : mg "_law_numbers" = some (.ref f_law_numbers)
  b_law_numbers : Binds K d_law_numbers ["told", "due"] []
  f_law_rows : Addr
  d_law_rows : FuncData
  F_law_rows : Fun K "_law_rows" "_law_rows" s_law_rows f_law_rows d_law_rows
  m_law_rows : mg "_law_rows" = some (.ref f_law_rows)
  b_law_rows : Binds K d_law_rows ["nodes", "edges", "start"] []
  f_law_links : Addr
  d_law_links : FuncData
  F_law_links : Fun K "_law_links" "_law_links" s_law_links f_law_links d_law_links
  m_law_links : mg "_law_links" = some (.ref f_law_links)
  b_law_links : Binds K d_law_links ["nodes", "edges", "start"] []
  f_law_asked : Addr
  d_law_asked : FuncData
  F_law_asked : Fun K "_law_asked" "_law_asked" s_law_asked f_law_asked d_law_asked
  m_law_asked : mg "_law_asked" = some (.ref f_law_asked)
  b_law_asked : Binds K d_law_asked ["nodes", "edges", "start", "links", "form"] []
  f_law_path : Addr
  d_law_path : FuncData
  F_law_path : Fun K "_law_path" "_law_path" s_law_path f_law_path d_law_path
  m_law_path : mg "_law_path" = some (.ref f_law_path)
  b_law_path : Binds K d_law_path ["draw"] []
  f_law_both_ways : Addr
  d_law_both_ways : FuncData
  F_law_both_ways : Fun K "_law_both_ways" "_law_both_ways" s_law_both_ways f_law_both_ways d_law_both_ways
  m_law_both_ways : mg "_law_both_ways" = some (.ref f_law_both_ways)
  b_law_both_ways : Binds K d_law_both_ways ["at", "place"] []
  f_law : Addr
  d_law : FuncData
  F_law : Fun K "law" "law" s_law f_law d_law
  m_law : mg "law" = some (.ref f_law)
  b_law : Binds K d_law ["script"] []
end K02

namespace K02
open PySem L2 PL
section
variable {P : Program} {w : World} {K : PySem.W.Frag} {mg : Str → Option Value} {base : Heap} (T : Txt K mg)
theorem dv_touching  {cdv : Value} {A : Around} {outer : List Env} {s1 : Shared} {H : Hp} {E : XK} (hr : Room 0 (cxOf CX0 P w K mg base N_touching "touching" (defScope s_touching) T.f_touching cdv A outer s1 H E).nox.A) :
    PDSs (cxOf CX0 P w K mg base N_touching "touching" (defScope s_touching) T.f_touching cdv A outer s1 H E).nox (defBody s_touching) touching_1 :=
  (dss_cons (ds_setLc (i := 2) (own := [("node", 4)]) rfl sc_touching.nd rfl rfl (sw_true rfl rfl rfl (by decide +kernel)) (di_rng1 (by rfl) T.range (d_var (pv 0))) (blkOk_by (by kernel_rfl)) (by decide) (fun _ _ _ _ _ => (dg_name (i := 4) sc_touching.nd rfl (by first | exact Or.inl rfl | exact Or.inr rfl))) (fun _ _ _ _ _ => dts_nil) (fun _ _ _ _ _ => (d_lst da_nil))) (dss_cons (ds_for PassesOwn.never rfl (di_rng1 (by rfl) T.range (d_len (by rfl) T.len (da_cons (d_var (pv 1)) da_nil))) (dg_name (i := 3) sc_touching.nd rfl (by first | exact Or.inl rfl | exact Or.inr rfl)) (dss_one (ds_for PassesOwn.never rfl (di_seq (d_ix hr (d_var (pv 1)) (d_var (pv 3)))) (dg_name (i := 4) sc_touching.nd rfl (by first | exact Or.inl rfl | exact Or.inr rfl)) (dss_one (ds_app (d_ix hr (d_var (pv 2)) (d_var (pv 4))) (d_var (pv 3))))))) (dss_frz 2 (dss_one (ds_ret (dm_of (d_var (pv 2))))))))
theorem dv_fresh_neighbours  {cdv : Value} {A : Around} {outer : List Env} {s1 : Shared} {H : Hp} {E : XK} (hr : Room 0 (cxOf CX0 P w K mg base N_fresh_neighbours "fresh_neighbours" (defScope s_fresh_neighbours) T.f_fresh_neighbours cdv A outer s1 H E).nox.A) :
    PDSs (cxOf CX0 P w K mg base N_fresh_neighbours "fresh_neighbours" (defScope s_fresh_neighbours) T.f_fresh_neighbours cdv A outer s1 H E).nox (defBody s_fresh_neighbours) fresh_neighbours_1 :=
  (dss_cons (ds_asg (i := 5) sc_fresh_neighbours.nd rfl (by first | exact Or.inl rfl | exact Or.inr rfl) (dm_of d_dnewK)) (dss_cons (ds_for PassesOwn.never rfl (di_seq (d_ix hr (d_var (pv 2)) (d_var (pv 0)))) (dg_name (i := 6) sc_fresh_neighbours.nd rfl (by first | exact Or.inl rfl | exact Or.inr rfl)) (dss_one (ds_if (t_not (t_val (d_ix hr (d_var (pv 3)) (d_var (pv 6))))) (dss_cons (ds_setI hr (dm_of d_bl) (d_var (pv 3)) (d_var (pv 6))) (dss_one (ds_for PassesOwn.never rfl (di_seq (d_ix hr (d_var (pv 1)) (d_var (pv 6)))) (dg_name (i := 7) sc_fresh_neighbours.nd rfl (by first | exact Or.inl rfl | exact Or.inr rfl)) (dss_one (ds_if (tw (tw_and (t_not (t_val (d_ix hr (d_var (pv 4)) (d_var (pv 7))))) (tw_and1 (t_nin hr (d_var (pv 7)) (d_var (pv 5)))))) (dss_one (ds_setI hr (dm_of (d_var (pv 6))) (d_var (pv 5)) (d_var (pv 7)))) dss_nil))))) dss_nil))) (dss_one (ds_ret (dm_of (d_lc (own := [("other", 7)]) rfl sc_fresh_neighbours.nd (di_seq (d_sortDI rfl (by rfl) T.sorted (d_var (pv 5)))) (blkOk_by (by kernel_rfl)) (by decide) (fun _ _ _ _ _ => (dg_name (i := 7) sc_fresh_neighbours.nd rfl (by first | exact Or.inl rfl | exact Or.inr rfl))) (fun _ _ _ _ _ => dts_nil) (fun _ _ _ _ _ => (d_tup (da_cons (d_var (pv 7)) (da_cons (d_ix hr (d_var (pv 5)) (d_var (pv 7))) da_nil))))))))))
theorem dv_spread (G_touching : FnOk P w K mg base CX0 1 T.f_touching T.d_touching ["nodes", "edges"] (spF K (spS sp_touching.s))) (G_fresh_neighbours : FnOk P w K mg base CX0 1 T.f_fresh_neighbours T.d_fresh_neighbours ["node", "edges", "holders", "used", "reached"] (spF K (spS sp_fresh_neighbours))) {cdv : Value} {A : Around} {outer : List Env} {s1 : Shared} {H : Hp} {E : XK} (hr : Room 1 (cxOf CX0 P w K mg base N_spread "spread" (defScope s_spread) T.f_spread cdv A outer s1 H E).nox.A) :
    PDSs (cxOf CX0 P w K mg base N_spread "spread" (defScope s_spread) T.f_spread cdv A outer s1 H E).nox (defBody s_spread) spread_1 :=
  (dss_cons (ds_asg (i := 3) sc_spread.nd rfl (by first | exact Or.inl rfl | exact Or.inr rfl) (dm_of (d_call G_touching (spS_mono _) (hr.mono (by decide)) (by rfl) T.m_touching T.F_touching.kp T.b_touching pass0 (da_cons (d_var (pv 0)) (da_cons (d_var (pv 1)) da_nil))))) (dss_cons (ds_setLc (i := 4) (own := [("edge", 12)]) rfl sc_spread.nd rfl rfl (sw_true rfl rfl rfl (by decide +kernel)) (di_seq (d_var (pv 1))) (blkOk_by (by kernel_rfl)) (by decide) (fun _ _ _ _ _ => (dg_name (i := 12) sc_spread.nd rfl (by first | exact Or.inl rfl | exact Or.inr rfl))) (fun _ _ _ _ _ => dts_nil) (fun _ _ _ _ _ => d_bl)) (dss_cons (ds_setLc (i := 5) (own := [("node", 9)]) rfl sc_spread.nd rfl rfl (sw_true rfl rfl rfl (by decide +kernel)) (di_rng1 (by rfl) T.range (d_var (pv 0))) (blkOk_by (by kernel_rfl)) (by decide) (fun _ _ _ _ _ => (dg_name (i := 9) sc_spread.nd rfl (by first | exact Or.inl rfl | exact Or.inr rfl))) (fun _ _ _ _ _ => dts_nil) (fun _ _ _ _ _ => d_bl)) (dss_cons (ds_setI hr (dm_of d_bl) (d_var (pv 5)) (d_var (pv 2))) (dss_cons (ds_asg (i := 6) sc_spread.nd rfl (by first | exact Or.inl rfl | exact Or.inr rfl) (dm_of (d_lst (da_cons (d_var (pv 2)) da_nil)))) (dss_cons (ds_asg (i := 7) sc_spread.nd rfl (by first | exact Or.inl rfl | exact Or.inr rfl) (dm_of (d_lst da_nil))) (dss_cons (ds_asg (i := 8) sc_spread.nd rfl (by first | exact Or.inl rfl | exact Or.inr rfl) (dm_of d_int)) (dss_cons (ds_while PassesOwn.never (t_lt (d_var (pv 8)) (d_len (by rfl) T.len (da_cons (d_var (pv 6)) da_nil))) (dss_cons (ds_asg (i := 9) sc_spread.nd rfl (by first | exact Or.inl rfl | exact Or.inr rfl) (dm_of (d_ix hr (d_var (pv 6)) (d_var (pv 8))))) (dss_cons (ds_forM PassesOwn.never rfl (dm_callM 4 G_fresh_neighbours (spS_mono _) (hr.mono (by decide)) (by rfl) T.m_fresh_neighbours T.F_fresh_neighbours.kp T.b_fresh_neighbours pass0 (da_cons (d_var (pv 9)) (da_cons (d_var (pv 1)) (da_cons (d_var (pv 3)) (da_cons (d_var (pv 4)) (da_cons (d_var (pv 5)) da_nil)))))) (dg_tup (n := 0) rfl (dgs_cons (dg_name (i := 10) sc_spread.nd rfl (by first | exact Or.inl rfl | exact Or.inr rfl)) (dgs_cons (dg_name (i := 11) sc_spread.nd rfl (by first | exact Or.inl rfl | exact Or.inr rfl)) dgs_nil))) (dss_cons (ds_setI hr (dm_of d_bl) (d_var (pv 5)) (d_var (pv 10))) (dss_cons (ds_app (d_var (pv 6)) (d_var (pv 10))) (dss_one (ds_app (d_var (pv 7)) (d_tup (da_cons (d_var (pv 9)) (da_cons (d_var (pv 11)) (da_cons (d_var (pv 10)) da_nil))))))))) (dss_one (ds_asg (i := 8) sc_spread.nd rfl (by first | exact Or.inl rfl | exact Or.inr rfl) (dm_of (d_add (d_var (pv 8)) d_int))))))) (dss_frz 5 (dss_one (ds_ret (dm_of (d_tuple (by rfl) T.tuple (d_var (pv 7)))))))))))))))
theorem dv_law_whole  {cdv : Value} {A : Around} {outer : List Env} {s1 : Shared} {H : Hp} {E : XK} (hr : Room 0 (cxOf CX0 P w K mg base N_law_whole "_law_whole" (defScope s_law_whole) T.f_law_whole cdv A outer s1 H E).nox.A) :
    PDSs (cxOf CX0 P w K mg base N_law_whole "_law_whole" (defScope s_law_whole) T.f_law_whole cdv A outer s1 H E).nox (defBody s_law_whole) law_whole_1 :=
  (dss_one (ds_ret (dm_of (d_and (d_isi (T' := "int") (by decide) (by rfl) T.isinstance (by rfl) T.int (by decide +kernel) (d_var (pv 0))) (d_one (d_not (d_isi (T' := "bool") (by decide) (by rfl) T.isinstance (by rfl) T.bool (by decide +kernel) (d_var (pv 0)))))))))
theorem dv_law_cell  {cdv : Value} {A : Around} {outer : List Env} {s1 : Shared} {H : Hp} {E : XK} (hr : Room 0 (cxOf CX0 P w K mg base N_law_cell "_law_cell" (defScope s_law_cell) T.f_law_cell cdv A outer s1 H E).nox.A) :
    PDSs (cxOf CX0 P w K mg base N_law_cell "_law_cell" (defScope s_law_cell) T.f_law_cell cdv A outer s1 H E).nox (defBody s_law_cell) law_cell_1 :=
  (dss_cons (ds_if (t_lt (d_var (pv 1)) (d_len (by rfl) T.len (da_cons (d_var (pv 0)) da_nil))) (dss_cons (ds_if (t_ge (d_ix hr (d_var (pv 0)) (d_var (pv 1))) (d_pow d_int d_int)) (dss_one (ds_ret (dm_of (d_intc (by rfl) T.int (da_cons (d_ix hr (d_var (pv 0)) (d_var (pv 1))) da_nil))))) dss_nil) (dss_one (ds_ret (dm_of (d_add (d_mul (d_mod (d_intc (by rfl) T.int (da_cons (d_ix hr (d_var (pv 0)) (d_var (pv 1))) da_nil)) d_int) d_int) (d_var (pv 1))))))) dss_nil) (dss_cons (ds_asg (i := 2) sc_law_cell.nd rfl (by first | exact Or.inl rfl | exact Or.inr rfl) (dm_of d_int)) (dss_cons (ds_for PassesOwn.never rfl (di_seq (d_var (pv 0))) (dg_name (i := 3) sc_law_cell.nd rfl (by first | exact Or.inl rfl | exact Or.inr rfl)) (dss_one (ds_asg (i := 2) sc_law_cell.nd rfl (by first | exact Or.inl rfl | exact Or.inr rfl) (dm_of (d_mod (d_intc (by rfl) T.int (da_cons (d_add (d_mul (d_var (pv 2)) d_int) (d_mod (d_intc (by rfl) T.int (da_cons (d_var (pv 3)) da_nil)) d_int)) da_nil)) d_int))))) (dss_one (ds_ret (dm_of (d_mod (d_intc (by rfl) T.int (da_cons (d_mul (d_mul (d_add (d_var (pv 2)) d_int) (d_add (d_var (pv 1)) d_int)) d_int) da_nil)) d_int)))))))
theorem dv_law_digits  {cdv : Value} {A : Around} {outer : List Env} {s1 : Shared} {H : Hp} {E : XK} (hr : Room 0 (cxOf CX0 P w K mg base N_law_digits "_law_digits" (defScope s_law_digits) T.f_law_digits cdv A outer s1 H E).nox.A) :
    PDSs (cxOf CX0 P w K mg base N_law_digits "_law_digits" (defScope s_law_digits) T.f_law_digits cdv A outer s1 H E).nox (defBody s_law_digits) law_digits_1 :=
  (dss_cons (ds_asg (i := 2) sc_law_digits.nd rfl (by first | exact Or.inl rfl | exact Or.inr rfl) (dm_of (d_lst da_nil))) (dss_cons (ds_asg (i := 3) sc_law_digits.nd rfl (by first | exact Or.inl rfl | exact Or.inr rfl) (dm_of (d_intc (by rfl) T.int (da_cons (d_var (pv 0)) da_nil)))) (dss_cons (ds_if (t_ge (d_var (pv 3)) (d_pow d_int d_int)) (dss_cons (ds_asg (i := 3) sc_law_digits.nd rfl (by first | exact Or.inl rfl | exact Or.inr rfl) (dm_of (d_sub (d_var (pv 3)) (d_pow d_int d_int)))) (dss_cons (ds_for PassesOwn.never rfl (di_seq (d_var (pv 1))) (dg_name (i := 4) sc_law_digits.nd rfl (by first | exact Or.inl rfl | exact Or.inr rfl)) (dss_cons (ds_app (d_var (pv 2)) (d_mod (d_intc (by rfl) T.int (da_cons (d_var (pv 3)) da_nil)) (d_var (pv 4)))) (dss_one (ds_asg (i := 3) sc_law_digits.nd rfl (by first | exact Or.inl rfl | exact Or.inr rfl) (dm_of (d_div (d_intc (by rfl) T.int (da_cons (d_var (pv 3)) da_nil)) (d_var (pv 4)))))))) (dss_one (ds_ret (dm_move (pv 2)))))) dss_nil) (dss_cons (ds_asg (i := 5) sc_law_digits.nd rfl (by first | exact Or.inl rfl | exact Or.inr rfl) (dm_of (d_mod (d_intc (by rfl) T.int (da_cons (d_var (pv 3)) da_nil)) d_int))) (dss_cons (ds_for PassesOwn.never rfl (di_rng1 (by rfl) T.range (d_len (by rfl) T.len (da_cons (d_var (pv 1)) da_nil))) (dg_name (i := 6) sc_law_digits.nd rfl (by first | exact Or.inl rfl | exact Or.inr rfl)) (dss_cons (ds_asg (i := 5) sc_law_digits.nd rfl (by first | exact Or.inl rfl | exact Or.inr rfl) (dm_of (d_mod (d_intc (by rfl) T.int (da_cons (d_add (d_add (d_mul (d_var (pv 5)) d_int) (d_mul d_int (d_var (pv 6)))) d_int) da_nil)) d_int))) (dss_cons (ds_asg (i := 7) sc_law_digits.nd rfl (by first | exact Or.inl rfl | exact Or.inr rfl) (dm_of (d_mod (d_intc (by rfl) T.int (da_cons (d_mul (d_var (pv 5)) (d_add (d_div (d_var (pv 5)) d_int) d_int)) da_nil)) d_int))) (dss_one (ds_app (d_var (pv 2)) (d_mod (d_div (d_var (pv 7)) d_int) (d_ix hr (d_var (pv 1)) (d_var (pv 6))))))))) (dss_one (ds_ret (dm_move (pv 2)))))))))
theorem dv_law_held  {cdv : Value} {A : Around} {outer : List Env} {s1 : Shared} {H : Hp} {E : XK} (hr : Room 0 (cxOf CX0 P w K mg base N_law_held "_law_held" (defScope s_law_held) T.f_law_held cdv A outer s1 H E).nox.A) :
    PDSs (cxOf CX0 P w K mg base N_law_held "_law_held" (defScope s_law_held) T.f_law_held cdv A outer s1 H E).nox (defBody s_law_held) law_held_1 :=
  (dss_one (ds_ret (dm_of (d_lc (own := [("node", 2)]) rfl sc_law_held.nd (di_rng1 (by rfl) T.range (d_var (pv 0))) (blkOk_by (by kernel_rfl)) (by decide) (fun _ _ _ _ _ => (dg_name (i := 2) sc_law_held.nd rfl (by first | exact Or.inl rfl | exact Or.inr rfl))) (fun _ _ _ _ _ => (dts_one (t_in_ hr (d_var (pv 2)) (d_var (pv 1))))) (fun _ _ _ _ _ => (d_var (pv 2)))))))
theorem dv_law_small_edge (G_law_digits : FnOk P w K mg base CX0 1 T.f_law_digits T.d_law_digits ["cell", "sizes"] (spF K (spS sp_law_digits.s))) (G_law_held : FnOk P w K mg base CX0 1 T.f_law_held T.d_law_held ["nodes", "chosen"] (spF K (spS sp_law_held.s))) {cdv : Value} {A : Around} {outer : List Env} {s1 : Shared} {H : Hp} {E : XK} (hr : Room 1 (cxOf CX0 P w K mg base N_law_small_edge "_law_small_edge" (defScope s_law_small_edge) T.f_law_small_edge cdv A outer s1 H E).nox.A) :
    PDSs (cxOf CX0 P w K mg base N_law_small_edge "_law_small_edge" (defScope s_law_small_edge) T.f_law_small_edge cdv A outer s1 H E).nox (defBody s_law_small_edge) law_small_edge_1 :=
  (dss_cons (ds_asg (i := 4) sc_law_small_edge.nd rfl (by first | exact Or.inl rfl | exact Or.inr rfl) (dm_of (d_fz (d_lst (da_cons d_int (da_cons d_int (da_cons d_int (da_cons d_int (da_cons d_int (da_cons d_int (da_cons d_int (da_cons d_int (da_cons d_int da_nil))))))))))))) (dss_cons (ds_asg (i := 5) sc_law_small_edge.nd rfl (by first | exact Or.inl rfl | exact Or.inr rfl) (dm_of (d_fz (d_call G_law_digits (spS_mono _) (hr.mono (by decide)) (by rfl) T.m_law_digits T.F_law_digits.kp T.b_law_digits pass0 (da_cons (d_var (pv 0)) (da_cons (d_lst (da_cons d_int (da_cons (d_var (pv 1)) (da_cons (d_var (pv 1)) (da_cons d_int (da_cons (d_sub (d_ix hr (d_var (pv 4)) (d_var (pv 1))) d_int) (da_cons d_int da_nil))))))) da_nil)))))) (dss_cons (ds_asg (i := 6) sc_law_small_edge.nd rfl (by first | exact Or.inl rfl | exact Or.inr rfl) (dm_of (d_ix hr (d_var (pv 5)) d_int))) (dss_cons (ds_asg (i := 7) sc_law_small_edge.nd rfl (by first | exact Or.inl rfl | exact Or.inr rfl) (dm_of (d_mod (d_intc (by rfl) T.int (da_cons (d_add (d_add (d_var (pv 6)) d_int) (d_mod (d_ix hr (d_var (pv 5)) d_int) (d_max rfl (by rfl) T.max (da_cons d_int (da_cons (d_sub (d_var (pv 1)) d_int) da_nil))))) da_nil)) (d_var (pv 1))))) (dss_cons (ds_asg (i := 8) sc_law_small_edge.nd rfl (by first | exact Or.inl rfl | exact Or.inr rfl) (dm_of (d_add (d_add (d_var (pv 6)) d_int) (d_ix hr (d_var (pv 5)) d_int)))) (dss_cons (ds_if (t_ge (d_var (pv 8)) (d_var (pv 1))) (dss_one (ds_asg (i := 8) sc_law_small_edge.nd rfl (by first | exact Or.inl rfl | exact Or.inr rfl) (dm_of (d_max rfl (by rfl) T.max (da_cons d_int (da_cons (d_sub (d_sub (d_var (pv 6)) d_int) (d_ix hr (d_var (pv 5)) d_int)) da_nil)))))) dss_nil) (dss_cons (ds_if (t_eq hr (d_ix hr (d_var (pv 5)) d_int) d_int) (dss_one (ds_ret (dm_of (d_lst (da_cons (d_var (pv 6)) da_nil))))) dss_nil) (dss_cons (ds_if (tw (tw_and (t_eq hr (d_ix hr (d_var (pv 5)) d_int) d_int) (tw_and1 (t_gt (d_len (by rfl) T.len (da_cons (d_var (pv 2)) da_nil)) d_int)))) (dss_one (ds_ret (dm_of (d_list (by rfl) T.list (d_ix hr (d_var (pv 2)) (d_mod (d_ix hr (d_var (pv 5)) d_int) (d_len (by rfl) T.len (da_cons (d_var (pv 2)) da_nil)))))))) dss_nil) (dss_cons (ds_if (t_eq hr (d_ix hr (d_var (pv 5)) d_int) d_int) (dss_one (ds_ret (dm_of (d_lc (own := [("node", 9)]) rfl sc_law_small_edge.nd (di_rng1 (by rfl) T.range (d_var (pv 1))) (blkOk_by (by kernel_rfl)) (by decide) (fun _ _ _ _ _ => (dg_name (i := 9) sc_law_small_edge.nd rfl (by first | exact Or.inl rfl | exact Or.inr rfl))) (fun _ _ _ _ _ => (dts_one (t_eq hr (d_mod (d_intc (by rfl) T.int (da_cons (d_div (d_add (d_ix hr (d_var (pv 5)) d_int) d_int) (d_ix hr (d_var (pv 4)) (d_var (pv 9)))) da_nil)) d_int) d_int))) (fun _ _ _ _ _ => (d_var (pv 9))))))) dss_nil) (dss_cons (ds_if (t_eq hr (d_ix hr (d_var (pv 5)) d_int) d_int) (dss_one (ds_ret (dm_of (d_call G_law_held (spS_mono _) (hr.mono (by decide)) (by rfl) T.m_law_held T.F_law_held.kp T.b_law_held pass0 (da_cons (d_var (pv 1)) (da_cons (d_lst (da_cons (d_var (pv 6)) (da_cons (d_add (d_var (pv 6)) d_int) (da_cons (d_add (d_var (pv 6)) d_int) da_nil)))) da_nil)))))) dss_nil) (dss_cons (ds_if (tw (tw_and (t_gt (d_ix hr (d_var (pv 5)) d_int) d_int) (tw_and1 (t_val (d_var (pv 3)))))) (dss_one (ds_ret (dm_of (d_call G_law_held (spS_mono _) (hr.mono (by decide)) (by rfl) T.m_law_held T.F_law_held.kp T.b_law_held pass0 (da_cons (d_var (pv 1)) (da_cons (d_lst (da_cons (d_var (pv 6)) (da_cons (d_var (pv 7)) da_nil))) da_nil)))))) dss_nil) (dss_one (ds_ret (dm_of (d_call G_law_held (spS_mono _) (hr.mono (by decide)) (by rfl) T.m_law_held T.F_law_held.kp T.b_law_held pass0 (da_cons (d_var (pv 1)) (da_cons (d_lst (da_cons (d_var (pv 6)) (da_cons (d_var (pv 8)) da_nil))) da_nil)))))))))))))))))
theorem dv_law_wide_edges (G_law_digits : FnOk P w K mg base CX0 1 T.f_law_digits T.d_law_digits ["cell", "sizes"] (spF K (spS sp_law_digits.s))) (G_law_held : FnOk P w K mg base CX0 1 T.f_law_held T.d_law_held ["nodes", "chosen"] (spF K (spS sp_law_held.s))) {cdv : Value} {A : Around} {outer : List Env} {s1 : Shared} {H : Hp} {E : XK} (hr : Room 1 (cxOf CX0 P w K mg base N_law_wide_edges "_law_wide_edges" (defScope s_law_wide_edges) T.f_law_wide_edges cdv A outer s1 H E).nox.A) :
    PDSs (cxOf CX0 P w K mg base N_law_wide_edges "_law_wide_edges" (defScope s_law_wide_edges) T.f_law_wide_edges cdv A outer s1 H E).nox (defBody s_law_wide_edges) law_wide_edges_1 :=
  (dss_cons (ds_asg (i := 2) sc_law_wide_edges.nd rfl (by first | exact Or.inl rfl | exact Or.inr rfl) (dm_of (d_fz (d_call G_law_digits (spS_mono _) (hr.mono (by decide)) (by rfl) T.m_law_digits T.F_law_digits.kp T.b_law_digits pass0 (da_cons (d_var (pv 0)) (da_cons (d_mul (d_lst (da_cons d_int (da_cons d_int (da_cons d_int (da_cons d_int (da_cons d_int da_nil)))))) d_int) da_nil)))))) (dss_cons (ds_asg (i := 3) sc_law_wide_edges.nd rfl (by first | exact Or.inl rfl | exact Or.inr rfl) (dm_of (d_lst da_nil))) (dss_cons (ds_for PassesOwn.never rfl (di_rng1 (by rfl) T.range d_int) (dg_name (i := 4) sc_law_wide_edges.nd rfl (by first | exact Or.inl rfl | exact Or.inr rfl)) (dss_cons (ds_asg (i := 5) sc_law_wide_edges.nd rfl (by first | exact Or.inl rfl | exact Or.inr rfl) (dm_of (d_mod (d_intc (by rfl) T.int (da_cons (d_ix hr (d_var (pv 2)) (d_add (d_mul d_int (d_var (pv 4))) d_int)) da_nil)) (d_var (pv 1))))) (dss_cons (ds_asg (i := 6) sc_law_wide_edges.nd rfl (by first | exact Or.inl rfl | exact Or.inr rfl) (dm_of (d_min rfl (by rfl) T.min (da_cons (d_sub (d_var (pv 1)) d_int) (da_cons (d_add (d_add (d_var (pv 5)) d_int) (d_ix hr (d_var (pv 2)) (d_add (d_mul d_int (d_var (pv 4))) d_int))) da_nil))))) (dss_cons (ds_asg (i := 7) sc_law_wide_edges.nd rfl (by first | exact Or.inl rfl | exact Or.inr rfl) (dm_of (d_mod (d_intc (by rfl) T.int (da_cons (d_ix hr (d_var (pv 2)) (d_add (d_mul d_int (d_var (pv 4))) d_int)) da_nil)) (d_var (pv 1))))) (dss_cons (ds_asg (i := 8) sc_law_wide_edges.nd rfl (by first | exact Or.inl rfl | exact Or.inr rfl) (dm_of (d_mod (d_intc (by rfl) T.int (da_cons (d_ix hr (d_var (pv 2)) (d_add (d_mul d_int (d_var (pv 4))) d_int)) da_nil)) (d_var (pv 1))))) (dss_cons (ds_asg (i := 9) sc_law_wide_edges.nd rfl (by first | exact Or.inl rfl | exact Or.inr rfl) (dm_of (d_lst (da_cons (d_fz (d_lst (da_cons (d_var (pv 5)) da_nil))) (da_cons (d_fz (d_lst (da_cons (d_var (pv 5)) (da_cons (d_var (pv 6)) da_nil)))) (da_cons (d_fz (d_lst (da_cons (d_var (pv 5)) (da_cons (d_var (pv 6)) da_nil)))) (da_cons (d_fz (d_lst (da_cons (d_var (pv 5)) (da_cons (d_var (pv 6)) da_nil)))) (da_cons (d_fz (d_lst (da_cons (d_var (pv 5)) (da_cons (d_var (pv 7)) da_nil)))) (da_cons (d_fz (d_lst (da_cons (d_var (pv 5)) (da_cons (d_var (pv 6)) (da_cons (d_sub (d_var (pv 6)) d_int) da_nil))))) da_nil))))))))) (dss_cons (ds_app (d_var (pv 9)) (d_fz (d_lst (da_cons (d_var (pv 5)) (da_cons (d_var (pv 6)) (da_cons (d_var (pv 7)) (da_cons (d_var (pv 8)) da_nil))))))) (dss_cons (ds_app (d_var (pv 9)) (d_fz (d_lc (own := [("step", 10)]) rfl sc_law_wide_edges.nd (di_rng1 (by rfl) T.range (d_add d_int (d_mul d_int (d_ix hr (d_var (pv 2)) (d_add (d_mul d_int (d_var (pv 4))) d_int))))) (blkOk_by (by kernel_rfl)) (by decide) (fun _ _ _ _ _ => (dg_name (i := 10) sc_law_wide_edges.nd rfl (by first | exact Or.inl rfl | exact Or.inr rfl))) (fun _ _ _ _ _ => dts_nil) (fun _ _ _ _ _ => (d_add (d_var (pv 5)) (d_var (pv 10))))))) (dss_one (ds_app (d_var (pv 3)) (d_fz (d_call G_law_held (spS_mono _) (hr.mono (by decide)) (by rfl) T.m_law_held T.F_law_held.kp T.b_law_held pass0 (da_cons (d_var (pv 1)) (da_cons (d_ix hr (d_var (pv 9)) (d_ix hr (d_var (pv 2)) (d_mul d_int (d_var (pv 4))))) da_nil)))))))))))))) (dss_one (ds_ret (dm_move (pv 3)))))))
theorem dv_law_net (G_law_cell : FnOk P w K mg base CX0 1 T.f_law_cell T.d_law_cell ["script", "k"] (spF K (spS sp_law_cell.s))) (G_law_digits : FnOk P w K mg base CX0 1 T.f_law_digits T.d_law_digits ["cell", "sizes"] (spF K (spS sp_law_digits.s))) (G_law_wide_edges : FnOk P w K mg base CX0 2 T.f_law_wide_edges T.d_law_wide_edges ["cell", "nodes"] (spF K (spS sp_law_wide_edges.s))) (G_law_small_edge : FnOk P w K mg base CX0 2 T.f_law_small_edge T.d_law_small_edge ["cell", "nodes", "edges", "loose"] (spF K (spS sp_law_small_edge.s))) {cdv : Value} {A : Around} {outer : List Env} {s1 : Shared} {H : Hp} {E : XK} (hr : Room 2 (cxOf CX0 P w K mg base N_law_net "_law_net" (defScope s_law_net) T.f_law_net cdv A outer s1 H E).nox.A) :
    PDSs (cxOf CX0 P w K mg base N_law_net "_law_net" (defScope s_law_net) T.f_law_net cdv A outer s1 H E).nox (defBody s_law_net) law_net_1 :=
  (dss_cons (ds_asg (i := 2) sc_law_net.nd rfl (by first | exact Or.inl rfl | exact Or.inr rfl) (dm_of (d_fz (d_call G_law_digits (spS_mono _) (hr.mono (by decide)) (by rfl) T.m_law_digits T.F_law_digits.kp T.b_law_digits pass0 (da_cons (d_call G_law_cell (spS_mono _) (hr.mono (by decide)) (by rfl) T.m_law_cell T.F_law_cell.kp T.b_law_cell pass0 (da_cons (d_var (pv 0)) (da_cons (d_var (pv 1)) da_nil))) (da_cons (d_add (d_lst (da_cons d_int (da_cons d_int (da_cons d_int (da_cons d_int (da_cons d_int (da_cons d_int da_nil))))))) (d_mul (d_lst (da_cons d_int da_nil)) d_int)) da_nil)))))) (dss_cons (ds_asg (i := 3) sc_law_net.nd rfl (by first | exact Or.inl rfl | exact Or.inr rfl) (dm_of (d_ix hr (d_lst (da_cons d_int (da_cons d_int (da_cons d_int (da_cons d_int (da_cons d_int (da_cons d_int (da_cons d_int (da_cons d_int (da_cons d_int (da_cons d_int (da_cons d_int (da_cons d_int (da_cons d_int (da_cons d_int (da_cons d_int (da_cons d_int da_nil))))))))))))))))) (d_ix hr (d_var (pv 2)) d_int)))) (dss_cons (ds_asg (i := 4) sc_law_net.nd rfl (by first | exact Or.inl rfl | exact Or.inr rfl) (dm_of (d_ix hr (d_lst (da_cons d_int (da_cons d_int (da_cons d_int (da_cons d_int (da_cons d_int (da_cons d_int (da_cons d_int (da_cons d_int (da_cons d_int (da_cons d_int (da_cons d_int (da_cons d_int (da_cons d_int (da_cons d_int (da_cons d_int (da_cons d_int (da_cons d_int (da_cons d_int (da_cons d_int (da_cons d_int (da_cons d_int (da_cons d_int (da_cons d_int (da_cons d_int da_nil))))))))))))))))))))))))) (d_ix hr (d_var (pv 2)) d_int)))) (dss_cons (ds_asg (i := 5) sc_law_net.nd rfl (by first | exact Or.inl rfl | exact Or.inr rfl) (dm_of (d_lst da_nil))) (dss_cons (ds_if (t_eq hr (d_ix hr (d_var (pv 2)) d_int) d_int) (dss_frz 5 (dss_cons (ds_asg (i := 3) sc_law_net.nd rfl (by first | exact Or.inl rfl | exact Or.inr rfl) (dm_of (d_add d_int (d_ix hr (d_var (pv 2)) d_int)))) (dss_cons (ds_for PassesOwn.never rfl (di_rng1 (by rfl) T.range d_int) (dg_name (i := 6) sc_law_net.nd rfl (by first | exact Or.inl rfl | exact Or.inr rfl)) (dss_cons (ds_asg (i := 5) sc_law_net.nd rfl (by first | exact Or.inl rfl | exact Or.inr rfl) (dm_of (d_add (d_var (pv 5)) (d_call G_law_wide_edges (spS_mono _) (hr.mono (by decide)) (by rfl) T.m_law_wide_edges T.F_law_wide_edges.kp T.b_law_wide_edges pass0 (da_cons (d_call G_law_cell (spS_mono _) (hr.mono (by decide)) (by rfl) T.m_law_cell T.F_law_cell.kp T.b_law_cell pass0 (da_cons (d_var (pv 0)) (da_cons (d_add (d_add (d_var (pv 1)) d_int) (d_var (pv 6))) da_nil))) (da_cons (d_var (pv 3)) da_nil)))))) (dss_frz 5 dss_nil))) (dss_cons (ds_asg (i := 5) sc_law_net.nd rfl (by first | exact Or.inl rfl | exact Or.inr rfl) (dm_of (d_sl (d_var (pv 5)) do_none (do_some (d_add d_int (d_ix hr (d_var (pv 2)) d_int)))))) (dss_frz 5 dss_nil))))) (dss_cons (ds_for PassesOwn.never rfl (di_rng1 (by rfl) T.range (d_var (pv 4))) (dg_name (i := 6) sc_law_net.nd rfl (by first | exact Or.inl rfl | exact Or.inr rfl)) (dss_one (ds_app (d_var (pv 5)) (d_fz (d_call G_law_small_edge (spS_mono _) (hr.mono (by decide)) (by rfl) T.m_law_small_edge T.F_law_small_edge.kp T.b_law_small_edge pass0 (da_cons (d_call G_law_cell (spS_mono _) (hr.mono (by decide)) (by rfl) T.m_law_cell T.F_law_cell.kp T.b_law_cell pass0 (da_cons (d_var (pv 0)) (da_cons (d_add (d_add (d_var (pv 1)) d_int) (d_var (pv 6))) da_nil))) (da_cons (d_var (pv 3)) (da_cons (d_var (pv 5)) (da_cons (d_eq hr (d_ix hr (d_var (pv 2)) d_int) d_int) da_nil))))))))) (dss_frz 5 dss_nil))) (dss_cons (ds_asg (i := 7) sc_law_net.nd rfl (by first | exact Or.inl rfl | exact Or.inr rfl) (dm_of (d_fz (d_lc (own := [("pair", 8)]) rfl sc_law_net.nd (di_seq (d_sortD hr (by rfl) T.sorted (d_lc (own := [("k", 6)]) rfl sc_law_net.nd (di_rng1 (by rfl) T.range (d_var (pv 3))) (blkOk_by (by kernel_rfl)) (by decide) (fun _ _ _ _ _ => (dg_name (i := 6) sc_law_net.nd rfl (by first | exact Or.inl rfl | exact Or.inr rfl))) (fun _ _ _ _ _ => dts_nil) (fun _ _ _ _ _ => (d_tup (da_cons (d_ix hr (d_var (pv 2)) (d_add d_int (d_var (pv 6)))) (da_cons (d_var (pv 6)) da_nil))))))) (blkOk_by (by kernel_rfl)) (by decide) (fun _ _ _ _ _ => (dg_name (i := 8) sc_law_net.nd rfl (by first | exact Or.inl rfl | exact Or.inr rfl))) (fun _ _ _ _ _ => dts_nil) (fun _ _ _ _ _ => (d_ix hr (d_var (pv 8)) d_int)))))) (dss_one (ds_ret (dm_of (d_fz (d_lst (da_cons (d_var (pv 3)) (da_cons (d_fz (d_lc (own := [("edge", 9)]) rfl sc_law_net.nd (di_seq (d_var (pv 5))) (blkOk_by (by kernel_rfl)) (by decide) (fun _ _ _ _ _ => (dg_name (i := 9) sc_law_net.nd rfl (by first | exact Or.inl rfl | exact Or.inr rfl))) (fun _ _ _ _ _ => dts_nil) (fun _ _ _ _ _ => (d_fz (d_sortD hr (by rfl) T.sorted (d_lc (own := [("node", 10)]) rfl sc_law_net.nd (di_seq (d_var (pv 9))) (blkOk_by (by kernel_rfl)) (by decide) (fun _ _ _ _ _ => (dg_name (i := 10) sc_law_net.nd rfl (by first | exact Or.inl rfl | exact Or.inr rfl))) (fun _ _ _ _ _ => dts_nil) (fun _ _ _ _ _ => (d_ix hr (d_var (pv 7)) (d_var (pv 10)))))))))) da_nil)))))))))))))
theorem dv_law_form  {cdv : Value} {A : Around} {outer : List Env} {s1 : Shared} {H : Hp} {E : XK} (hr : Room 0 (cxOf CX0 P w K mg base N_law_form "_law_form" (defScope s_law_form) T.f_law_form cdv A outer s1 H E).nox.A) :
    PDSs (cxOf CX0 P w K mg base N_law_form "_law_form" (defScope s_law_form) T.f_law_form cdv A outer s1 H E).nox (defBody s_law_form) law_form_1 :=
  (dss_cons (ds_if (t_eq hr (d_var (pv 1)) d_int) (dss_one (ds_ret (dm_of (d_fz (d_lc (own := [("row", 2)]) rfl sc_law_form.nd (di_seq (d_var (pv 0))) (blkOk_by (by kernel_rfl)) (by decide) (fun _ _ _ _ _ => (dg_name (i := 2) sc_law_form.nd rfl (by first | exact Or.inl rfl | exact Or.inr rfl))) (fun _ _ _ _ _ => dts_nil) (fun _ _ _ _ _ => (d_fz (d_list (by rfl) T.list (d_var (pv 2)))))))))) dss_nil) (dss_cons (ds_if (t_eq hr (d_var (pv 1)) d_int) (dss_one (ds_ret (dm_of (d_tuple (by rfl) T.tuple (d_lc (own := [("row", 2)]) rfl sc_law_form.nd (di_seq (d_var (pv 0))) (blkOk_by (by kernel_rfl)) (by decide) (fun _ _ _ _ _ => (dg_name (i := 2) sc_law_form.nd rfl (by first | exact Or.inl rfl | exact Or.inr rfl))) (fun _ _ _ _ _ => dts_nil) (fun _ _ _ _ _ => (d_tuple (by rfl) T.tuple (d_var (pv 2))))))))) dss_nil) (dss_cons (ds_if (t_eq hr (d_var (pv 1)) d_int) (dss_one (ds_ret (dm_of (d_fz (d_lc (own := [("row", 2)]) rfl sc_law_form.nd (di_seq (d_var (pv 0))) (blkOk_by (by kernel_rfl)) (by decide) (fun _ _ _ _ _ => (dg_name (i := 2) sc_law_form.nd rfl (by first | exact Or.inl rfl | exact Or.inr rfl))) (fun _ _ _ _ _ => dts_nil) (fun _ _ _ _ _ => (d_tuple (by rfl) T.tuple (d_var (pv 2))))))))) dss_nil) (dss_one (ds_ret (dm_of (d_tuple (by rfl) T.tuple (d_lc (own := [("row", 2)]) rfl sc_law_form.nd (di_seq (d_var (pv 0))) (blkOk_by (by kernel_rfl)) (by decide) (fun _ _ _ _ _ => (dg_name (i := 2) sc_law_form.nd rfl (by first | exact Or.inl rfl | exact Or.inr rfl))) (fun _ _ _ _ _ => dts_nil) (fun _ _ _ _ _ => (d_fz (d_list (by rfl) T.list (d_var (pv 2)))))))))))))
theorem dv_law_numbers (G_law_whole : FnOk P w K mg base CX0 1 T.f_law_whole T.d_law_whole ["value"] (spF K (spS sp_law_whole.s))) {cdv : Value} {A : Around} {outer : List Env} {s1 : Shared} {H : Hp} {E : XK} (hr : Room 1 (cxOf CX0 P w K mg base N_law_numbers "_law_numbers" (defScope s_law_numbers) T.f_law_numbers cdv A outer s1 H E).nox.A) :
    PDSs (cxOf CX0 P w K mg base N_law_numbers "_law_numbers" (defScope s_law_numbers) T.f_law_numbers cdv A outer s1 H E).nox (defBody s_law_numbers) law_numbers_1 :=
  (dss_cons (ds_if (tw (tw_or (t_not (t_val (d_isi (T' := "tuple") (by decide) (by rfl) T.isinstance (by rfl) T.tuple (by decide +kernel) (d_var (pv 0))))) (tw_or1 (t_ne hr (d_len (by rfl) T.len (da_cons (d_var (pv 0)) da_nil)) (d_len (by rfl) T.len (da_cons (d_var (pv 1)) da_nil)))))) (dss_one (ds_ret (dm_of d_bl))) dss_nil) (dss_cons (ds_for PassesOwn.never rfl (di_rng1 (by rfl) T.range (d_len (by rfl) T.len (da_cons (d_var (pv 1)) da_nil))) (dg_name (i := 2) sc_law_numbers.nd rfl (by first | exact Or.inl rfl | exact Or.inr rfl)) (dss_one (ds_if (tw (tw_or (t_not (t_val (d_call G_law_whole (spS_mono _) (hr.mono (by decide)) (by rfl) T.m_law_whole T.F_law_whole.kp T.b_law_whole pass0 (da_cons (d_ix hr (d_var (pv 0)) (d_var (pv 2))) da_nil)))) (tw_or1 (t_ne hr (d_ix hr (d_var (pv 0)) (d_var (pv 2))) (d_ix hr (d_var (pv 1)) (d_var (pv 2))))))) (dss_one (ds_ret (dm_of d_bl))) dss_nil))) (dss_one (ds_ret (dm_of d_bl)))))
theorem dv_law_rows  {cdv : Value} {A : Around} {outer : List Env} {s1 : Shared} {H : Hp} {E : XK} (hr : Room 0 (cxOf CX0 P w K mg base N_law_rows "_law_rows" (defScope s_law_rows) T.f_law_rows cdv A outer s1 H E).nox.A) :
    PDSs (cxOf CX0 P w K mg base N_law_rows "_law_rows" (defScope s_law_rows) T.f_law_rows cdv A outer s1 H E).nox (defBody s_law_rows) law_rows_1 :=
  (dss_cons (ds_asg (i := 3) sc_law_rows.nd rfl (by first | exact Or.inl rfl | exact Or.inr rfl) (dm_of (d_lc (own := [("node", 8)]) rfl sc_law_rows.nd (di_rng1 (by rfl) T.range (d_var (pv 0))) (blkOk_by (by kernel_rfl)) (by decide) (fun _ _ _ _ _ => (dg_name (i := 8) sc_law_rows.nd rfl (by first | exact Or.inl rfl | exact Or.inr rfl))) (fun _ _ _ _ _ => dts_nil) (fun _ _ _ _ _ => d_non)))) (dss_cons (ds_setI hr (dm_of (d_tup (da_cons (d_var (pv 2)) da_nil))) (d_var (pv 3)) (d_var (pv 2))) (dss_cons (ds_for PassesOwn.never rfl (di_rng1 (by rfl) T.range (d_var (pv 0))) (dg_name (i := 4) sc_law_rows.nd rfl (by first | exact Or.inl rfl | exact Or.inr rfl)) (dss_cons (ds_asg (i := 5) sc_law_rows.nd rfl (by first | exact Or.inl rfl | exact Or.inr rfl) (dm_of d_int)) (dss_cons (ds_for PassesOwn.never rfl (di_seq (d_var (pv 1))) (dg_name (i := 6) sc_law_rows.nd rfl (by first | exact Or.inl rfl | exact Or.inr rfl)) (dss_cons (ds_setLcF (i := 7) (own := [("row", 9)]) rfl sc_law_rows.nd rfl rfl (sw_true rfl rfl rfl (by decide +kernel)) (di_seq (d_lc (own := [("node", 8)]) rfl sc_law_rows.nd (di_seq (d_var (pv 6))) (blkOk_by (by kernel_rfl)) (by decide) (fun _ _ _ _ _ => (dg_name (i := 8) sc_law_rows.nd rfl (by first | exact Or.inl rfl | exact Or.inr rfl))) (fun _ _ _ _ _ => dts_nil) (fun _ _ _ _ _ => (d_ix hr (d_var (pv 3)) (d_var (pv 8)))))) (blkOk_by (by kernel_rfl)) (by decide) (fun _ _ _ _ _ => (dg_name (i := 9) sc_law_rows.nd rfl (by first | exact Or.inl rfl | exact Or.inr rfl))) (fun _ _ _ _ _ => (dts_one (tw (tw_and (t_isnt (d_var (pv 9)) d_non) (tw_and1 (t_eq hr (d_len (by rfl) T.len (da_cons (d_var (pv 9)) da_nil)) (d_add (d_var (pv 4)) d_int))))))) (fun _ _ _ _ _ => (d_var (pv 9)))) (dss_one (ds_if (t_gt (d_len (by rfl) T.len (da_cons (d_var (pv 7)) da_nil)) d_int) (dss_one (ds_for PassesOwn.never rfl (di_seq (d_var (pv 6))) (dg_name (i := 8) sc_law_rows.nd rfl (by first | exact Or.inl rfl | exact Or.inr rfl)) (dss_cons (ds_asg (i := 9) sc_law_rows.nd rfl (by first | exact Or.inl rfl | exact Or.inr rfl) (dm_of (d_add (d_minD rfl hr (by rfl) T.min (d_var (pv 7))) (d_tup (da_cons (d_var (pv 8)) da_nil))))) (dss_one (ds_if (tw (tw_or (t_is (d_ix hr (d_var (pv 3)) (d_var (pv 8))) d_non) (tw_or1 (tw (tw_and (t_eq hr (d_len (by rfl) T.len (da_cons (d_ix hr (d_var (pv 3)) (d_var (pv 8))) da_nil)) (d_add (d_var (pv 4)) d_int)) (tw_and1 (t_ltD hr (d_var (pv 9)) (d_ix hr (d_var (pv 3)) (d_var (pv 8)))))))))) (dss_cons (ds_setI hr (dm_of (d_var (pv 9))) (d_var (pv 3)) (d_var (pv 8))) (dss_one (ds_asg (i := 5) sc_law_rows.nd rfl (by first | exact Or.inl rfl | exact Or.inr rfl) (dm_of (d_add (d_var (pv 5)) d_int))))) dss_nil))))) dss_nil)))) (dss_one (ds_if (t_eq hr (d_var (pv 5)) d_int) (dss_one ds_break) dss_nil))))) (dss_one (ds_ret (dm_move (pv 3)))))))
theorem dv_law_links (G_law_rows : FnOk P w K mg base CX0 1 T.f_law_rows T.d_law_rows ["nodes", "edges", "start"] (spF K (spS sp_law_rows.s))) {cdv : Value} {A : Around} {outer : List Env} {s1 : Shared} {H : Hp} {E : XK} (hr : Room 1 (cxOf CX0 P w K mg base N_law_links "_law_links" (defScope s_law_links) T.f_law_links cdv A outer s1 H E).nox.A) :
    PDSs (cxOf CX0 P w K mg base N_law_links "_law_links" (defScope s_law_links) T.f_law_links cdv A outer s1 H E).nox (defBody s_law_links) law_links_1 :=
  (dss_cons (ds_asg (i := 3) sc_law_links.nd rfl (by first | exact Or.inl rfl | exact Or.inr rfl) (dm_of (d_fz (d_call G_law_rows (spS_mono _) (hr.mono (by decide)) (by rfl) T.m_law_rows T.F_law_rows.kp T.b_law_rows pass0 (da_cons (d_var (pv 0)) (da_cons (d_var (pv 1)) (da_cons (d_var (pv 2)) da_nil))))))) (dss_cons (ds_asg (i := 4) sc_law_links.nd rfl (by first | exact Or.inl rfl | exact Or.inr rfl) (dm_of (d_lst da_nil))) (dss_cons (ds_for PassesOwn.never rfl (di_seq (d_sortD hr (by rfl) T.sorted (d_lc (own := [("row", 9)]) rfl sc_law_links.nd (di_seq (d_var (pv 3))) (blkOk_by (by kernel_rfl)) (by decide) (fun _ _ _ _ _ => (dg_name (i := 9) sc_law_links.nd rfl (by first | exact Or.inl rfl | exact Or.inr rfl))) (fun _ _ _ _ _ => (dts_one (tw (tw_and (t_isnt (d_var (pv 9)) d_non) (tw_and1 (t_gt (d_len (by rfl) T.len (da_cons (d_var (pv 9)) da_nil)) d_int)))))) (fun _ _ _ _ _ => (d_tup (da_cons (d_len (by rfl) T.len (da_cons (d_var (pv 9)) da_nil)) (da_cons (d_var (pv 9)) da_nil))))))) (dg_name (i := 5) sc_law_links.nd rfl (by first | exact Or.inl rfl | exact Or.inr rfl)) (dss_cons (ds_asg (i := 6) sc_law_links.nd rfl (by first | exact Or.inl rfl | exact Or.inr rfl) (dm_of (d_ix hr (d_ix hr (d_var (pv 5)) d_int) (d_sub (d_ix hr (d_var (pv 5)) d_int) d_int)))) (dss_cons (ds_asg (i := 7) sc_law_links.nd rfl (by first | exact Or.inl rfl | exact Or.inr rfl) (dm_of (d_ix hr (d_ix hr (d_var (pv 5)) d_int) (d_sub (d_ix hr (d_var (pv 5)) d_int) d_int)))) (dss_cons (ds_setLcF (i := 8) (own := [("number", 10)]) rfl sc_law_links.nd rfl rfl (sw_true rfl rfl rfl (by decide +kernel)) (di_rng1 (by rfl) T.range (d_len (by rfl) T.len (da_cons (d_var (pv 1)) da_nil))) (blkOk_by (by kernel_rfl)) (by decide) (fun _ _ _ _ _ => (dg_name (i := 10) sc_law_links.nd rfl (by first | exact Or.inl rfl | exact Or.inr rfl))) (fun _ _ _ _ _ => (dts_one (tw (tw_and (t_in_ hr (d_var (pv 6)) (d_ix hr (d_var (pv 1)) (d_var (pv 10)))) (tw_and1 (t_in_ hr (d_var (pv 7)) (d_ix hr (d_var (pv 1)) (d_var (pv 10))))))))) (fun _ _ _ _ _ => (d_var (pv 10)))) (dss_one (ds_app (d_var (pv 4)) (d_tup (da_cons (d_var (pv 6)) (da_cons (d_ix hr (d_var (pv 8)) d_int) (da_cons (d_var (pv 7)) da_nil)))))))))) (dss_one (ds_ret (dm_move (pv 4)))))))
theorem dv_law_asked (G_law_form : FnOk P w K mg base CX0 1 T.f_law_form T.d_law_form ["rows", "form"] (spF K (spS sp_law_form.s))) (G_spread : FnOk P w K mg base CX0 2 T.f_spread T.d_spread ["nodes", "edges", "start"] (spF K (spS sp_spread.s))) (G_law_numbers : FnOk P w K mg base CX0 2 T.f_law_numbers T.d_law_numbers ["told", "due"] (spF K (spS sp_law_numbers.s))) {cdv : Value} {A : Around} {outer : List Env} {s1 : Shared} {H : Hp} {E : XK} (hr : Room 2 (cxOf CX0 P w K mg base N_law_asked "_law_asked" (defScope s_law_asked) T.f_law_asked cdv A outer s1 H E).nox.A) :
    PDSs (cxOf CX0 P w K mg base N_law_asked "_law_asked" (defScope s_law_asked) T.f_law_asked cdv A outer s1 H E).nox (defBody s_law_asked) law_asked_1 :=
  (dss_cons (ds_asg (i := 5) sc_law_asked.nd rfl (by first | exact Or.inl rfl | exact Or.inr rfl) (dm_of (d_call G_law_form (spS_mono _) (hr.mono (by decide)) (by rfl) T.m_law_form T.F_law_form.kp T.b_law_form pass0 (da_cons (d_var (pv 1)) (da_cons (d_var (pv 4)) da_nil))))) (dss_cons (ds_asg (i := 6) sc_law_asked.nd rfl (by first | exact Or.inl rfl | exact Or.inr rfl) (dm_of (d_call G_spread (spS_mono _) (hr.mono (by decide)) (by rfl) T.m_spread T.F_spread.kp T.b_spread pass0 (da_cons (d_var (pv 0)) (da_cons (d_var (pv 5)) (da_cons (d_var (pv 2)) da_nil)))))) (dss_cons (ds_if (tw (tw_or (t_ne hr (d_var (pv 5)) (d_call G_law_form (spS_mono _) (hr.mono (by decide)) (by rfl) T.m_law_form T.F_law_form.kp T.b_law_form pass0 (da_cons (d_var (pv 1)) (da_cons (d_var (pv 4)) da_nil)))) (tw_or (t_not (t_val (d_isi (T' := "tuple") (by decide) (by rfl) T.isinstance (by rfl) T.tuple (by decide +kernel) (d_var (pv 6))))) (tw_or1 (t_ne hr (d_len (by rfl) T.len (da_cons (d_var (pv 6)) da_nil)) (d_len (by rfl) T.len (da_cons (d_var (pv 3)) da_nil))))))) (dss_one (ds_ret (dm_of d_bl))) dss_nil) (dss_cons (ds_for PassesOwn.never rfl (di_rng1 (by rfl) T.range (d_len (by rfl) T.len (da_cons (d_var (pv 3)) da_nil))) (dg_name (i := 7) sc_law_asked.nd rfl (by first | exact Or.inl rfl | exact Or.inr rfl)) (dss_one (ds_if (t_not (t_val (d_call G_law_numbers (spS_mono _) (hr.mono (by decide)) (by rfl) T.m_law_numbers T.F_law_numbers.kp T.b_law_numbers pass0 (da_cons (d_ix hr (d_var (pv 6)) (d_var (pv 7))) (da_cons (d_ix hr (d_var (pv 3)) (d_var (pv 7))) da_nil))))) (dss_one (ds_ret (dm_of d_bl))) dss_nil))) (dss_one (ds_ret (dm_of d_bl)))))))
theorem dv_law_path  {cdv : Value} {A : Around} {outer : List Env} {s1 : Shared} {H : Hp} {E : XK} (hr : Room 0 (cxOf CX0 P w K mg base N_law_path "_law_path" (defScope s_law_path) T.f_law_path cdv A outer s1 H E).nox.A) :
    PDSs (cxOf CX0 P w K mg base N_law_path "_law_path" (defScope s_law_path) T.f_law_path cdv A outer s1 H E).nox (defBody s_law_path) law_path_1 :=
  (dss_cons (ds_asg (i := 1) sc_law_path.nd rfl (by first | exact Or.inl rfl | exact Or.inr rfl) (dm_of (d_add d_int (d_ix hr (d_var (pv 0)) d_int)))) (dss_cons (ds_asg (i := 2) sc_law_path.nd rfl (by first | exact Or.inl rfl | exact Or.inr rfl) (dm_of (d_ix hr (d_lst (da_cons d_int (da_cons d_int (da_cons d_int (da_cons d_int da_nil))))) (d_ix hr (d_var (pv 0)) d_int)))) (dss_cons (ds_if (t_eq hr (d_mod (d_intc (by rfl) T.int (da_cons (d_var (pv 1)) da_nil)) (d_var (pv 2))) d_int) (dss_one (ds_asg (i := 2) sc_law_path.nd rfl (by first | exact Or.inl rfl | exact Or.inr rfl) (dm_of d_int))) dss_nil) (dss_cons (ds_asg (i := 3) sc_law_path.nd rfl (by first | exact Or.inl rfl | exact Or.inr rfl) (dm_of (d_fz (d_lc (own := [("place", 5)]) rfl sc_law_path.nd (di_rng1 (by rfl) T.range (d_var (pv 1))) (blkOk_by (by kernel_rfl)) (by decide) (fun _ _ _ _ _ => (dg_name (i := 5) sc_law_path.nd rfl (by first | exact Or.inl rfl | exact Or.inr rfl))) (fun _ _ _ _ _ => dts_nil) (fun _ _ _ _ _ => (d_mod (d_intc (by rfl) T.int (da_cons (d_add (d_mul (d_var (pv 5)) (d_var (pv 2))) (d_ix hr (d_var (pv 0)) d_int)) da_nil)) (d_var (pv 1)))))))) (dss_cons (ds_setLcF (i := 4) (own := [("place", 5)]) rfl sc_law_path.nd rfl rfl (sw_true rfl rfl rfl (by decide +kernel)) (di_rng1 (by rfl) T.range (d_sub (d_var (pv 1)) d_int)) (blkOk_by (by kernel_rfl)) (by decide) (fun _ _ _ _ _ => (dg_name (i := 5) sc_law_path.nd rfl (by first | exact Or.inl rfl | exact Or.inr rfl))) (fun _ _ _ _ _ => dts_nil) (fun _ _ _ _ _ => (d_fz (d_sortD hr (by rfl) T.sorted (d_lst (da_cons (d_ix hr (d_var (pv 3)) (d_var (pv 5))) (da_cons (d_ix hr (d_var (pv 3)) (d_add (d_var (pv 5)) d_int)) da_nil))))))) (dss_one (ds_ret (dm_of (d_fz (d_lst (da_cons (d_var (pv 1)) (da_cons (d_var (pv 3)) (da_cons (d_fz (d_mul (d_var (pv 4)) (d_add d_int (d_ix hr (d_var (pv 0)) d_int)))) da_nil)))))))))))))
theorem dv_law_both_ways  {cdv : Value} {A : Around} {outer : List Env} {s1 : Shared} {H : Hp} {E : XK} (hr : Room 0 (cxOf CX0 P w K mg base N_law_both_ways "_law_both_ways" (defScope s_law_both_ways) T.f_law_both_ways cdv A outer s1 H E).nox.A) :
    PDSs (cxOf CX0 P w K mg base N_law_both_ways "_law_both_ways" (defScope s_law_both_ways) T.f_law_both_ways cdv A outer s1 H E).nox (defBody s_law_both_ways) law_both_ways_1 :=
  (dss_cons (ds_asg (i := 2) sc_law_both_ways.nd rfl (by first | exact Or.inl rfl | exact Or.inr rfl) (dm_of (d_lst da_nil))) (dss_cons (ds_if (t_gt (d_var (pv 1)) d_int) (dss_one (ds_app (d_var (pv 2)) (d_tup (da_cons (d_ix hr (d_var (pv 0)) (d_sub (d_var (pv 1)) d_int)) (da_cons (d_neg d_int) da_nil))))) dss_nil) (dss_cons (ds_if (t_lt (d_var (pv 1)) (d_sub (d_len (by rfl) T.len (da_cons (d_var (pv 0)) da_nil)) d_int)) (dss_one (ds_app (d_var (pv 2)) (d_tup (da_cons (d_ix hr (d_var (pv 0)) (d_add (d_var (pv 1)) d_int)) (da_cons d_int da_nil))))) dss_nil) (dss_cons (ds_asg (i := 3) sc_law_both_ways.nd rfl (by first | exact Or.inl rfl | exact Or.inr rfl) (dm_of (d_lst da_nil))) (dss_cons (ds_for PassesOwn.never rfl (di_rng1 (by rfl) T.range (d_len (by rfl) T.len (da_cons (d_var (pv 0)) da_nil))) (dg_name (i := 4) sc_law_both_ways.nd rfl (by first | exact Or.inl rfl | exact Or.inr rfl)) (dss_one (ds_for PassesOwn.never rfl (di_seq (d_sortD hr (by rfl) T.sorted (d_var (pv 2)))) (dg_name (i := 5) sc_law_both_ways.nd rfl (by first | exact Or.inl rfl | exact Or.inr rfl)) (dss_cons (ds_asg (i := 6) sc_law_both_ways.nd rfl (by first | exact Or.inl rfl | exact Or.inr rfl) (dm_of (d_add (d_var (pv 1)) (d_mul (d_var (pv 4)) (d_ix hr (d_var (pv 5)) d_int))))) (dss_one (ds_if (t_chn op_le op_lt sc_cmp sc_cmp d_int (d_add (d_var (pv 6)) (d_ix hr (d_var (pv 5)) d_int)) (d_len (by rfl) T.len (da_cons (d_var (pv 0)) da_nil))) (dss_one (ds_app (d_var (pv 3)) (d_tup (da_cons (d_ix hr (d_var (pv 0)) (d_var (pv 6))) (da_cons (d_min rfl (by rfl) T.min (da_cons (d_var (pv 6)) (da_cons (d_add (d_var (pv 6)) (d_ix hr (d_var (pv 5)) d_int)) da_nil))) (da_cons (d_ix hr (d_var (pv 0)) (d_add (d_var (pv 6)) (d_ix hr (d_var (pv 5)) d_int))) da_nil)))))) dss_nil)))))) (dss_one (ds_ret (dm_move (pv 3)))))))))
theorem dv_law (G_law_cell : FnOk P w K mg base CX0 1 T.f_law_cell T.d_law_cell ["script", "k"] (spF K (spS sp_law_cell.s))) (G_law_digits : FnOk P w K mg base CX0 1 T.f_law_digits T.d_law_digits ["cell", "sizes"] (spF K (spS sp_law_digits.s))) (G_law_path : FnOk P w K mg base CX0 1 T.f_law_path T.d_law_path ["draw"] (spF K (spS sp_law_path.s))) (G_law_both_ways : FnOk P w K mg base CX0 1 T.f_law_both_ways T.d_law_both_ways ["at", "place"] (spF K (spS sp_law_both_ways.s))) (G_law_asked : FnOk P w K mg base CX0 3 T.f_law_asked T.d_law_asked ["nodes", "edges", "start", "links", "form"] (spF K (spS sp_law_asked.s))) (G_law_net : FnOk P w K mg base CX0 3 T.f_law_net T.d_law_net ["script", "at"] (spF K (spS sp_law_net.s))) (G_law_links : FnOk P w K mg base CX0 2 T.f_law_links T.d_law_links ["nodes", "edges", "start"] (spF K (spS sp_law_links.s))) {cdv : Value} {A : Around} {outer : List Env} {s1 : Shared} {H : Hp} {E : XK} (hr : Room 3 (cxOf CX0 P w K mg base N_law "law" (defScope s_law) T.f_law cdv A outer s1 H E).nox.A) :
    PDSs (cxOf CX0 P w K mg base N_law "law" (defScope s_law) T.f_law cdv A outer s1 H E).nox (defBody s_law) law_1 :=
  (dss_cons (ds_asg (i := 1) sc_law.nd rfl (by first | exact Or.inl rfl | exact Or.inr rfl) (dm_of (d_fz (d_call G_law_digits (spS_mono _) (hr.mono (by decide)) (by rfl) T.m_law_digits T.F_law_digits.kp T.b_law_digits pass0 (da_cons (d_call G_law_cell (spS_mono _) (hr.mono (by decide)) (by rfl) T.m_law_cell T.F_law_cell.kp T.b_law_cell pass0 (da_cons (d_var (pv 0)) (da_cons d_int da_nil))) (da_cons (d_lst (da_cons d_int (da_cons d_int (da_cons d_int (da_cons d_int (da_cons d_int (da_cons d_int (da_cons d_int (da_cons d_int (da_cons d_int (da_cons d_int da_nil))))))))))) da_nil)))))) (dss_cons (ds_if (t_eq hr (d_ix hr (d_var (pv 1)) d_int) d_int) (dss_cons (ds_asg (i := 2) sc_law.nd rfl (by first | exact Or.inl rfl | exact Or.inr rfl) (dm_of (d_call G_law_path (spS_mono _) (hr.mono (by decide)) (by rfl) T.m_law_path T.F_law_path.kp T.b_law_path pass0 (da_cons (d_var (pv 1)) da_nil)))) (dss_cons (ds_asg (i := 3) sc_law.nd rfl (by first | exact Or.inl rfl | exact Or.inr rfl) (dm_of (d_mod (d_intc (by rfl) T.int (da_cons (d_ix hr (d_var (pv 1)) d_int) da_nil)) (d_ix hr (d_var (pv 2)) d_int)))) (dss_one (ds_ret (dm_of (d_call G_law_asked (spS_mono _) (hr.mono (by decide)) (by rfl) T.m_law_asked T.F_law_asked.kp T.b_law_asked pass0 (da_cons (d_ix hr (d_var (pv 2)) d_int) (da_cons (d_ix hr (d_var (pv 2)) d_int) (da_cons (d_ix hr (d_ix hr (d_var (pv 2)) d_int) (d_var (pv 3))) (da_cons (d_call G_law_both_ways (spS_mono _) (hr.mono (by decide)) (by rfl) T.m_law_both_ways T.F_law_both_ways.kp T.b_law_both_ways pass0 (da_cons (d_ix hr (d_var (pv 2)) d_int) (da_cons (d_var (pv 3)) da_nil))) (da_cons (d_ix hr (d_var (pv 1)) d_int) da_nil))))))))))) dss_nil) (dss_cons (ds_asg (i := 4) sc_law.nd rfl (by first | exact Or.inl rfl | exact Or.inr rfl) (dm_of (d_call G_law_net (spS_mono _) (hr.mono (by decide)) (by rfl) T.m_law_net T.F_law_net.kp T.b_law_net pass0 (da_cons (d_var (pv 0)) (da_cons d_int da_nil))))) (dss_cons (ds_asg (i := 5) sc_law.nd rfl (by first | exact Or.inl rfl | exact Or.inr rfl) (dm_of (d_ix hr (d_var (pv 4)) d_int))) (dss_cons (ds_asg (i := 6) sc_law.nd rfl (by first | exact Or.inl rfl | exact Or.inr rfl) (dm_of (d_ix hr (d_var (pv 4)) d_int))) (dss_cons (ds_setLcF (i := 7) (own := [("node", 11)]) rfl sc_law.nd rfl rfl (sw_true rfl rfl rfl (by decide +kernel)) (di_rng1 (by rfl) T.range (d_var (pv 5))) (blkOk_by (by kernel_rfl)) (by decide) (fun _ _ _ _ _ => (dg_name (i := 11) sc_law.nd rfl (by first | exact Or.inl rfl | exact Or.inr rfl))) (fun _ _ _ _ _ => dts_nil) (fun _ _ _ _ _ => (d_var (pv 11)))) (dss_cons (ds_if (t_gt (d_var (pv 5)) d_int) (dss_one (ds_setLcF (i := 7) (own := [("k", 12)]) rfl sc_law.nd rfl rfl (sw_true rfl rfl rfl (by decide +kernel)) (di_rng1 (by rfl) T.range d_int) (blkOk_by (by kernel_rfl)) (by decide) (fun _ _ _ _ _ => (dg_name (i := 12) sc_law.nd rfl (by first | exact Or.inl rfl | exact Or.inr rfl))) (fun _ _ _ _ _ => dts_nil) (fun _ _ _ _ _ => (d_mod (d_intc (by rfl) T.int (da_cons (d_ix hr (d_var (pv 1)) (d_add d_int (d_var (pv 12)))) da_nil)) (d_var (pv 5)))))) dss_nil) (dss_cons (ds_for PassesOwn.never rfl (di_seq (d_add (d_var (pv 7)) (d_sl (d_var (pv 7)) do_none (do_some d_int)))) (dg_name (i := 8) sc_law.nd rfl (by first | exact Or.inl rfl | exact Or.inr rfl)) (dss_one (ds_if (t_not (t_val (d_call G_law_asked (spS_mono _) (hr.mono (by decide)) (by rfl) T.m_law_asked T.F_law_asked.kp T.b_law_asked pass0 (da_cons (d_var (pv 5)) (da_cons (d_var (pv 6)) (da_cons (d_var (pv 8)) (da_cons (d_call G_law_links (spS_mono _) (hr.mono (by decide)) (by rfl) T.m_law_links T.F_law_links.kp T.b_law_links pass0 (da_cons (d_var (pv 5)) (da_cons (d_var (pv 6)) (da_cons (d_var (pv 8)) da_nil)))) (da_cons (d_ix hr (d_var (pv 1)) d_int) da_nil)))))))) (dss_one (ds_ret (dm_of d_bl))) dss_nil))) (dss_cons (ds_asg (i := 9) sc_law.nd rfl (by first | exact Or.inl rfl | exact Or.inr rfl) (dm_of (d_fz (d_rev (d_var (pv 6)))))) (dss_cons (ds_asg (i := 10) sc_law.nd rfl (by first | exact Or.inl rfl | exact Or.inr rfl) (dm_of (d_ix hr (d_var (pv 7)) (d_sub (d_len (by rfl) T.len (da_cons (d_var (pv 7)) da_nil)) d_int)))) (dss_cons (ds_if (t_not (t_val (d_call G_law_asked (spS_mono _) (hr.mono (by decide)) (by rfl) T.m_law_asked T.F_law_asked.kp T.b_law_asked pass0 (da_cons (d_var (pv 5)) (da_cons (d_var (pv 9)) (da_cons (d_var (pv 10)) (da_cons (d_call G_law_links (spS_mono _) (hr.mono (by decide)) (by rfl) T.m_law_links T.F_law_links.kp T.b_law_links pass0 (da_cons (d_var (pv 5)) (da_cons (d_var (pv 9)) (da_cons (d_var (pv 10)) da_nil)))) (da_cons (d_sub d_int (d_ix hr (d_var (pv 1)) d_int)) da_nil)))))))) (dss_one (ds_ret (dm_of d_bl))) dss_nil) (dss_one (ds_ret (dm_of (d_call G_law_asked (spS_mono _) (hr.mono (by decide)) (by rfl) T.m_law_asked T.F_law_asked.kp T.b_law_asked pass0 (da_cons (d_var (pv 5)) (da_cons (d_var (pv 6)) (da_cons (d_ix hr (d_var (pv 7)) d_int) (da_cons (d_call G_law_links (spS_mono _) (hr.mono (by decide)) (by rfl) T.m_law_links T.F_law_links.kp T.b_law_links pass0 (da_cons (d_var (pv 5)) (da_cons (d_var (pv 6)) (da_cons (d_ix hr (d_var (pv 7)) d_int) da_nil)))) (da_cons (d_ix hr (d_var (pv 1)) d_int) da_nil))))))))))))))))))))
end
end K02

namespace K02
open PySem L2 PL
section
variable {P : Program} {w : World} {K : PySem.W.Frag} {mg : Str → Option Value} {base : Heap} (T : Txt K mg)
theorem ok_touching : FnOk P w K mg base CX0 1 T.f_touching T.d_touching ["nodes", "edges"] (spF K (spS sp_touching.s)) :=
  fn_okP sp_touching T.F_touching sc_touching len_touching fun cdv A outer s1 H E hr => ⟨touching_1, dv_touching T  hr, fun ds a pre => pu_touching ds a pre⟩
theorem ok_fresh_neighbours : FnOk P w K mg base CX0 1 T.f_fresh_neighbours T.d_fresh_neighbours ["node", "edges", "holders", "used", "reached"] (spF K (spS sp_fresh_neighbours)) :=
  fn_ok sp_fresh_neighbours T.F_fresh_neighbours sc_fresh_neighbours len_fresh_neighbours fun cdv A outer s1 H E hr => ⟨fresh_neighbours_1, dv_fresh_neighbours T  hr, fun vs ts a pre hl => pu_fresh_neighbours vs ts a pre hl⟩
theorem ok_spread : FnOk P w K mg base CX0 2 T.f_spread T.d_spread ["nodes", "edges", "start"] (spF K (spS sp_spread.s)) :=
  fn_okP sp_spread T.F_spread sc_spread len_spread fun cdv A outer s1 H E hr => ⟨spread_1, dv_spread T (ok_touching T) (ok_fresh_neighbours T) hr, fun ds a pre => pu_spread ds a pre⟩
theorem ok_law_whole : FnOk P w K mg base CX0 1 T.f_law_whole T.d_law_whole ["value"] (spF K (spS sp_law_whole.s)) :=
  fn_okP sp_law_whole T.F_law_whole sc_law_whole len_law_whole fun cdv A outer s1 H E hr => ⟨law_whole_1, dv_law_whole T  hr, fun ds a pre => pu_law_whole ds a pre⟩
theorem ok_law_cell : FnOk P w K mg base CX0 1 T.f_law_cell T.d_law_cell ["script", "k"] (spF K (spS sp_law_cell.s)) :=
  fn_okP sp_law_cell T.F_law_cell sc_law_cell len_law_cell fun cdv A outer s1 H E hr => ⟨law_cell_1, dv_law_cell T  hr, fun ds a pre => pu_law_cell ds a pre⟩
theorem ok_law_digits : FnOk P w K mg base CX0 1 T.f_law_digits T.d_law_digits ["cell", "sizes"] (spF K (spS sp_law_digits.s)) :=
  fn_okP sp_law_digits T.F_law_digits sc_law_digits len_law_digits fun cdv A outer s1 H E hr => ⟨law_digits_1, dv_law_digits T  hr, fun ds a pre => pu_law_digits ds a pre⟩
theorem ok_law_held : FnOk P w K mg base CX0 1 T.f_law_held T.d_law_held ["nodes", "chosen"] (spF K (spS sp_law_held.s)) :=
  fn_okP sp_law_held T.F_law_held sc_law_held len_law_held fun cdv A outer s1 H E hr => ⟨law_held_1, dv_law_held T  hr, fun ds a pre => pu_law_held ds a pre⟩
theorem ok_law_small_edge : FnOk P w K mg base CX0 2 T.f_law_small_edge T.d_law_small_edge ["cell", "nodes", "edges", "loose"] (spF K (spS sp_law_small_edge.s)) :=
  fn_okP sp_law_small_edge T.F_law_small_edge sc_law_small_edge len_law_small_edge fun cdv A outer s1 H E hr => ⟨law_small_edge_1, dv_law_small_edge T (ok_law_digits T) (ok_law_held T) hr, fun ds a pre => pu_law_small_edge ds a pre⟩
theorem ok_law_wide_edges : FnOk P w K mg base CX0 2 T.f_law_wide_edges T.d_law_wide_edges ["cell", "nodes"] (spF K (spS sp_law_wide_edges.s)) :=
  fn_okP sp_law_wide_edges T.F_law_wide_edges sc_law_wide_edges len_law_wide_edges fun cdv A outer s1 H E hr => ⟨law_wide_edges_1, dv_law_wide_edges T (ok_law_digits T) (ok_law_held T) hr, fun ds a pre => pu_law_wide_edges ds a pre⟩
theorem ok_law_net : FnOk P w K mg base CX0 3 T.f_law_net T.d_law_net ["script", "at"] (spF K (spS sp_law_net.s)) :=
  fn_okP sp_law_net T.F_law_net sc_law_net len_law_net fun cdv A outer s1 H E hr => ⟨law_net_1, dv_law_net T (ok_law_cell T) (ok_law_digits T) (ok_law_wide_edges T) (ok_law_small_edge T) hr, fun ds a pre => pu_law_net ds a pre⟩
theorem ok_law_form : FnOk P w K mg base CX0 1 T.f_law_form T.d_law_form ["rows", "form"] (spF K (spS sp_law_form.s)) :=
  fn_okP sp_law_form T.F_law_form sc_law_form len_law_form fun cdv A outer s1 H E hr => ⟨law_form_1, dv_law_form T  hr, fun ds a pre => pu_law_form ds a pre⟩
theorem ok_law_numbers : FnOk P w K mg base CX0 2 T.f_law_numbers T.d_law_numbers ["told", "due"] (spF K (spS sp_law_numbers.s)) :=
  fn_okP sp_law_numbers T.F_law_numbers sc_law_numbers len_law_numbers fun cdv A outer s1 H E hr => ⟨law_numbers_1, dv_law_numbers T (ok_law_whole T) hr, fun ds a pre => pu_law_numbers ds a pre⟩
theorem ok_law_rows : FnOk P w K mg base CX0 1 T.f_law_rows T.d_law_rows ["nodes", "edges", "start"] (spF K (spS sp_law_rows.s)) :=
  fn_okP sp_law_rows T.F_law_rows sc_law_rows len_law_rows fun cdv A outer s1 H E hr => ⟨law_rows_1, dv_law_rows T  hr, fun ds a pre => pu_law_rows ds a pre⟩
theorem ok_law_links : FnOk P w K mg base CX0 2 T.f_law_links T.d_law_links ["nodes", "edges", "start"] (spF K (spS sp_law_links.s)) :=
  fn_okP sp_law_links T.F_law_links sc_law_links len_law_links fun cdv A outer s1 H E hr => ⟨law_links_1, dv_law_links T (ok_law_rows T) hr, fun ds a pre => pu_law_links ds a pre⟩
theorem ok_law_asked : FnOk P w K mg base CX0 3 T.f_law_asked T.d_law_asked ["nodes", "edges", "start", "links", "form"] (spF K (spS sp_law_asked.s)) :=
  fn_okP sp_law_asked T.F_law_asked sc_law_asked len_law_asked fun cdv A outer s1 H E hr => ⟨law_asked_1, dv_law_asked T (ok_law_form T) (ok_spread T) (ok_law_numbers T) hr, fun ds a pre => pu_law_asked ds a pre⟩
theorem ok_law_path : FnOk P w K mg base CX0 1 T.f_law_path T.d_law_path ["draw"] (spF K (spS sp_law_path.s)) :=
  fn_okP sp_law_path T.F_law_path sc_law_path len_law_path fun cdv A outer s1 H E hr => ⟨law_path_1, dv_law_path T  hr, fun ds a pre => pu_law_path ds a pre⟩
theorem ok_law_both_ways : FnOk P w K mg base CX0 1 T.f_law_both_ways T.d_law_both_ways ["at", "place"] (spF K (spS sp_law_both_ways.s)) :=
  fn_okP sp_law_both_ways T.F_law_both_ways sc_law_both_ways len_law_both_ways fun cdv A outer s1 H E hr => ⟨law_both_ways_1, dv_law_both_ways T  hr, fun ds a pre => pu_law_both_ways ds a pre⟩
theorem ok_law : FnOk P w K mg base CX0 4 T.f_law T.d_law ["script"] (spF K (spS sp_law.s)) :=
  fn_okP sp_law T.F_law sc_law len_law fun cdv A outer s1 H E hr => ⟨law_1, dv_law T (ok_law_cell T) (ok_law_digits T) (ok_law_path T) (ok_law_both_ways T) (ok_law_asked T) (ok_law_net T) (ok_law_links T) hr, fun ds a pre => pu_law ds a pre⟩
end
end K02

namespace K02
open PySem L2 PL
theorem sz_eq : sizeLine = 16777216 := by decide +kernel
theorem law_cell_yl (ns : List Int) (k : Int) (h0 : 0 ≤ k) (hk : k < 1000000) : Yl (law_cell ns k) fun _ => True := by
  unfold law_cell
  refine yl_ite (fun h => ?_) fun _ => ?_
  · have h : k < (ns.length : Int) := of_decide_eq_true h
    refine yl_at h0 h fun _ => yl_ite (fun _ => ?_) fun _ => ?_
    · exact yl_at h0 h fun _ => yl_some trivial
    · exact yl_at h0 h fun _ => yl_some trivial
  · refine yl_bnd fun s hs => ?_
    refine yl_bind (yl_foldM (fun s : Int => 0 ≤ s ∧ s < 1000003) (by omega) fun x _ s hs => ?_) fun s hs => yl_grd (by omega) (yl_some trivial)
    exact yl_bnd fun _ e => yl_some (by omega)
/-- digits of given sizes -/
theorem law_digits_yl (c : Int) (ss : List Int) (hl : ss.length ≤ 10000) (hs : ∀ s ∈ ss, 0 < s ∧ s ≤ 4611686018427387904) : Yl (law_digits c ss) fun rs => Dig rs ss := by
  have hs : ∀ k (h : k < ss.length), 0 < ss[k] ∧ ss[k] ≤ 4611686018427387904 := fun k h => hs _ (List.getElem_mem h)
  unfold law_digits
  refine yl_bnd fun row hrow => yl_bnd fun r0 _ => yl_ite (fun _ => ?_) fun _ => ?_
  · refine yl_bnd fun r1 _ => yl_bind (yl_foldO (fun k (s : List Int × Int) => Dig s.1 (ss.take k)) (by subst hrow; exact Dig.nil) fun k hk ⟨rs, z⟩ hi => ?_) fun ⟨rs, z⟩ h => yl_some (by rwa [List.take_length] at h)
    have hp := hs k hk
    have hl' := hi.1
    rw [List.length_take] at hl'
    simp only at hi
    refine yl_grd hp.1 (yl_grd (by simp only at hl' ⊢; omega) (yl_bnd fun _ e => yl_grd hp (yl_bnd fun _ _ => yl_some ?_)))
    subst e
    show Dig _ _
    rw [take_snoc hk]
    exact hi.snoc (Int.emod_nonneg _ (by omega)) (Int.emod_lt_of_pos _ (by omega))
  · refine yl_bnd fun seed hseed => yl_grd (by omega) (yl_bind (yl_rng (fun k (s : List Int × Int) => Dig s.1 (ss.take k) ∧ 0 ≤ s.2 ∧ s.2 < 2147483647) ?_ fun k hk ⟨rs, z⟩ ⟨hi, i1, i2⟩ => ?_) fun ⟨rs, z⟩ h => yl_some ?_)
    · subst hrow
      exact ⟨Dig.nil, by simp only; omega, by simp only; omega⟩
    · have hk' : k < ss.length := by omega
      have hp := hs k hk'
      have hl' := hi.1
      rw [List.length_take] at hl'
      simp only at hi i1 i2 hl'
      refine yl_bnd fun s e1 => yl_grd (by omega) (yl_bnd fun t e2 => yl_at (by omega) (by omega) fun q => ?_)
      have eq : (0 + (k : Int)).toNat = k := by omega
      simp only [eq]
      refine yl_grd hp.1 (yl_grd (by omega) (yl_bnd fun _ e3 => yl_some ?_))
      subst e3
      refine ⟨?_, by simp only; omega, by simp only; omega⟩
      show Dig _ _
      rw [take_snoc hk']
      exact hi.snoc (Int.emod_nonneg _ (by omega)) (Int.emod_lt_of_pos _ (by omega))
    · have e : ((ss.length : Int) - 0).toNat = ss.length := by omega
      rw [e, List.take_length] at h
      exact h.1
/-- nodes of a net -/
def Inr (n : Int) (ns : List Int) : Prop := ∀ x ∈ ns, 0 ≤ x ∧ x < n
theorem law_held_yl (n : Int) (cs : List Int) (h0 : 0 ≤ n) (h1 : n ≤ 100000) : Yl (law_held n cs) fun rs => Inr n rs ∧ rs.length ≤ n := by
  unfold law_held
  refine yl_grd (by omega) (yl_grd (by rw [rng_len]; omega) (yl_some ⟨fun x hx => ?_, ?_⟩))
  · have := rng_mem.mp (List.mem_filter.mp hx).1
    omega
  · have := List.length_filter_le (fun i => memL i cs) (rng 0 n)
    rw [rng_len] at this
    omega

def Edge (n : Int) (e : List Int) : Prop := Inr n e ∧ (e.length : Int) ≤ n
theorem pow_ok : ∀ m : Nat, m < 9 → 1 ≤ m → 2 ≤ gi [1, 2, 4, 8, 16, 32, 64, 128, 256] m ∧ gi [1, 2, 4, 8, 16, 32, 64, 128, 256] m ≤ 256 := by decide
theorem pow_ok0 : ∀ m : Nat, m < 9 → 1 ≤ gi [1, 2, 4, 8, 16, 32, 64, 128, 256] m ∧ gi [1, 2, 4, 8, 16, 32, 64, 128, 256] m ≤ 256 := by decide
theorem small_J1_yl {n one two near : Int} {es : List (List Int)} {b : Bool} {pw rs : List Int} (h1 : 1 ≤ n) (h8 : n ≤ 8) (he : ∀ e ∈ es, Edge n e) (hpw : pw = [1, 2, 4, 8, 16, 32, 64, 128, 256]) (hl : rs.length = 6) (d1 : 0 ≤ one ∧ one < n) : Yl (law_small_edge_J1 n es b pw rs one two near) (Edge n) := by
  have hpl : pw.length = 9 := by rw [hpw]; rfl
  have held : ∀ cs, Yl (law_held n cs) (Edge n) := fun cs => law_held_yl n cs (by omega) (by omega)
  unfold law_small_edge_J1
  simp (disch := omega) only [bnd_eq, atI_gi, grd_pos, Option.bind_some, rng_len]
  refine yl_ite (fun _ => yl_some ⟨fun x hx => ?_, by simp; omega⟩) fun _ => yl_ite (fun q => ?_) fun _ => yl_ite (fun _ => ?_) fun _ => yl_ite (fun _ => ?_) fun _ => yl_ite (fun _ => ?_) fun _ => ?_
  · rw [List.mem_singleton.mp hx]
    exact d1
  · simp at q
    have hq := q.2
    have m0 := Int.emod_nonneg (gi rs 5) (show (es.length : Int) ≠ 0 by omega)
    have m1 := Int.emod_lt_of_pos (gi rs 5) (show 0 < (es.length : Int) by omega)
    exact yl_grd (by omega) (yl_at m0 m1 fun _ => yl_some (he _ (List.getElem_mem _)))
  · refine yl_bind (yl_lcP (R := fun x => 0 ≤ x ∧ x < n) fun x hx => ?_) fun l hl => yl_some ⟨fun x hx => hl.2 x hx, by rw [rng_len] at hl; omega⟩
    have hx := rng_mem.mp hx
    have hp0 := pow_ok0 x.toNat (by omega)
    rw [← hpw] at hp0
    refine yl_gi (by omega) (by omega) ?_
    refine yl_grd (by omega) (yl_ite (fun _ => yl_some fun y e => ?_) fun _ => yl_some fun y e => nomatch e)
    cases e
    exact hx
  · exact yl_bind (held _) fun v hv => yl_some hv
  · exact yl_bind (held _) fun v hv => yl_some hv
  · exact yl_bind (held _) fun v hv => yl_some hv
theorem law_small_edge_yl (c n : Int) (es : List (List Int)) (b : Bool) (h1 : 1 ≤ n) (h8 : n ≤ 8) (he : ∀ e ∈ es, Edge n e) : Yl (law_small_edge c n es b) (Edge n) := by
  unfold law_small_edge
  refine yl_bnd fun pw hpw => ?_
  have hpl : pw.length = 9 := by rw [hpw]; rfl
  have hp := pow_ok n.toNat (by omega) (by omega)
  rw [← hpw] at hp
  refine yl_gi (by omega) (by omega) ?_
  refine yl_bind (law_digits_yl c _ (by simp) fun s hs => ?_) fun rs hd => ?_
  · simp at hs
    omega
  have hl : rs.length = 6 := hd.1
  have d1 : 0 ≤ gi rs 1 ∧ gi rs 1 < n := hd.2 1 (by simp)
  refine yl_bnd fun row e => ?_
  subst e
  simp (disch := omega) only [bnd_eq, atI_gi, grd_pos, Option.bind_some, rng_len]
  exact yl_ite (fun _ => small_J1_yl h1 h8 he hpw hl d1) fun _ => small_J1_yl h1 h8 he hpw hl d1
theorem law_wide_edges_yl (c n : Int) (h1 : 9 ≤ n) (h2 : n ≤ 100) : Yl (law_wide_edges c n) fun es => es.length = 7 ∧ ∀ e ∈ es, Edge n e := by
  unfold law_wide_edges
  refine yl_bind (law_digits_yl c _ (by decide) fun s hs => ?_) fun rs hd => ?_
  · have : s ∈ [8, 60, 60, 60, 5] := by
      unfold repL at hs
      obtain ⟨l, hl, hs⟩ := List.mem_flatten.mp hs
      rw [List.eq_of_mem_replicate hl] at hs
      exact hs
    simp at this
    omega
  have hl : rs.length = 35 := hd.1
  have df : ∀ k : Nat, k < 7 → (0 ≤ gi rs (5 * k) ∧ gi rs (5 * k) < 8) ∧ (0 ≤ gi rs (5 * k + 4) ∧ gi rs (5 * k + 4) < 5) := fun k hk => by
    have a := hd.2 (5 * k) (by show 5 * k < 35; omega)
    have b := hd.2 (5 * k + 4) (by show 5 * k + 4 < 35; omega)
    have e : ∀ k : Nat, k < 7 → gi (repL [8, 60, 60, 60, 5] 7) (5 * k) = 8 ∧ gi (repL [8, 60, 60, 60, 5] 7) (5 * k + 4) = 5 := by decide
    rw [(e k hk).1] at a
    rw [(e k hk).2] at b
    exact ⟨a, b⟩
  refine yl_bnd fun row e => yl_bnd fun es0 e0 => ?_
  subst e
  refine yl_bind (yl_rng (fun k (es : List (List Int)) => es.length = k ∧ ∀ e ∈ es, Edge n e) (by subst e0; exact ⟨rfl, fun _ z => nomatch z⟩) fun k hk es hi => ?_) fun es h => yl_some h
  have hk7 : k < 7 := by omega
  obtain ⟨f0, f4⟩ := df k hk7
  have e0 : (5 * (0 + (k : Int))).toNat = 5 * k := by omega
  have e4 : (5 * (0 + (k : Int)) + 4).toNat = 5 * k + 4 := by omega
  unfold law_wide_edges_b1
  simp (disch := omega) only [bnd_eq, atI_gi, grd_pos, Option.bind_some, e0, e4, rng_len]
  rw [grd_pos (by simp)]
  refine yl_at (by omega) (by simp; omega) fun _ => ?_
  exact yl_bind (law_held_yl n _ (by omega) (by omega)) fun v hv => yl_some ⟨by simp [hi.1], fun e he => by
    rcases List.mem_append.mp he with z | z
    · exact hi.2 e z
    · rw [List.mem_singleton.mp z]; exact hv⟩
theorem lcM {α β : Type} {b : α → Option (Option β)} {f : α → β} {xs : List α} (h : ∀ x ∈ xs, b x = some (some (f x))) : lcO b xs = some (xs.map f) := by
  rw [yl_lcO (fun x => some (f x)) h]
  congr 1
  induction xs with
  | nil => rfl
  | cons x xs ih => rw [List.filterMap_cons, ih fun y hy => h y (.tail _ hy)]; rfl
theorem netN_ok : ∀ m : Nat, m < 16 → 1 ≤ gi [8, 7, 6, 5, 4, 3, 2, 1, 8, 7, 8, 6, 8, 7, 8, 6] m ∧ gi [8, 7, 6, 5, 4, 3, 2, 1, 8, 7, 8, 6, 8, 7, 8, 6] m ≤ 8 := by decide
theorem netM_ok : ∀ m : Nat, m < 24 → 0 ≤ gi [9, 8, 7, 6, 5, 4, 3, 2, 1, 0, 9, 8, 7, 9, 8, 6, 9, 8, 7, 9, 8, 7, 9, 9] m ∧ gi [9, 8, 7, 6, 5, 4, 3, 2, 1, 0, 9, 8, 7, 9, 8, 6, 9, 8, 7, 9, 8, 7, 9, 9] m ≤ 9 := by decide
def NetOk (r : Int × List (List Int)) : Prop := 1 ≤ r.1 ∧ r.1 ≤ 60 ∧ r.2.length ≤ 63 ∧ ∀ e ∈ r.2, Edge r.1 e
theorem net_J1_yl {sh : List Int} {n : Int} {es : List (List Int)} (hl : sh.length = 66) (h1 : 1 ≤ n) (h2 : n ≤ 60) (hes : es.length ≤ 63) (he : ∀ e ∈ es, Edge n e) : Yl (law_net_J1 sh n es) NetOk := by
  unfold law_net_J1
  refine yl_grd (by omega) (yl_grd (by rw [rng_len]; omega) ?_)
  rw [lcM (f := fun i => (gi sh (6 + i).toNat, i)) fun i hi => by
    have hi := rng_mem.mp hi
    rw [atI_gi (by omega) (by omega)]
    rfl]
  rw [Option.bind_some]
  refine yl_bnd fun od eo => ?_
  have pm := (sortBy_perm (lt := ordT2 (fun a b : Int => decide (a < b)) (fun a b : Int => decide (a < b))) (xs := (rng 0 n).map fun i => (gi sh (6 + i).toNat, i))).map (·.2)
  rw [← eo, List.map_map] at pm
  have pm2 : od.Perm (rng 0 n) := by
    have e : (rng 0 n).map ((fun x : Int × Int => x.2) ∘ fun i => (gi sh (6 + i).toNat, i)) = rng 0 n := List.map_id' _
    rw [e] at pm
    exact pm
  have ol : od.length = n.toNat := by rw [pm2.length_eq, rng_len]; omega
  have oi : ∀ x ∈ od, 0 ≤ x ∧ x < n := fun x hx => by have := rng_mem.mp (pm2.mem_iff.mp hx); omega
  refine yl_bind (yl_lcP (R := Edge n) fun x hx => ?_) fun l h => yl_some ⟨h1, h2, by show l.length ≤ 63; omega, h.2⟩
  have hx := he x hx
  refine yl_bind (yl_lcP (R := fun y => 0 ≤ y ∧ y < n) fun i hi => ?_) fun l h => yl_some fun y e => ?_
  · have hi := hx.1 i hi
    exact yl_at hi.1 (by omega) fun _ => yl_some fun y e => by cases e; exact oi _ (List.getElem_mem _)
  · cases e
    refine ⟨fun y hy => h.2 y (sortBy_perm.mem_iff.mp hy), ?_⟩
    rw [sortBy_perm.length_eq]
    have := hx.2
    omega
theorem sizes_ok : ∀ s ∈ [16, 24, 8, 52, 56, 3] ++ repL [(1000 : Int)] 60, 0 < s ∧ s ≤ 4611686018427387904 := by decide +kernel
theorem law_net_yl (ns : List Int) (a : Int) (h0 : 0 ≤ a) (h1 : a ≤ 1000) : Yl (law_net ns a) NetOk := by
  unfold law_net
  refine yl_bind (law_cell_yl ns a h0 (by omega)) fun z _ => yl_grd (by rw [sz_eq]; decide +kernel) (yl_bind (law_digits_yl z _ (by decide +kernel) sizes_ok) fun rs hd => ?_)
  have hl : rs.length = 66 := hd.1
  have d0 : 0 ≤ gi rs 0 ∧ gi rs 0 < 16 := hd.2 0 (by decide +kernel)
  have d1 : 0 ≤ gi rs 1 ∧ gi rs 1 < 24 := hd.2 1 (by decide +kernel)
  have d2 : 0 ≤ gi rs 2 ∧ gi rs 2 < 8 := hd.2 2 (by decide +kernel)
  have d3 : 0 ≤ gi rs 3 ∧ gi rs 3 < 52 := hd.2 3 (by decide +kernel)
  have d4 : 0 ≤ gi rs 4 ∧ gi rs 4 < 56 := hd.2 4 (by decide +kernel)
  have q0 := netN_ok (gi rs 0).toNat (by omega)
  have q1 := netM_ok (gi rs 1).toNat (by omega)
  simp (disch := first | omega | (simp; omega)) only [bnd_eq, atI_gi, Option.bind_some]
  refine yl_ite (fun _ => ?_) fun _ => yl_grd (by simp; omega) ?_
  · refine yl_bind (yl_rng (fun k (es : List (List Int)) => es.length = 7 * k ∧ ∀ e ∈ es, Edge (9 + gi rs 3) e) ⟨rfl, fun _ z => nomatch z⟩ fun k hk es hi => ?_) fun es hi => net_J1_yl hl (by simp; omega) (by simp; omega) ?_ fun e he => hi.2 e (cutL_mem he)
    · unfold law_net_b1
      refine yl_bind (law_cell_yl ns _ (by omega) (by omega)) fun z _ => yl_bind (law_wide_edges_yl z _ (by simp; omega) (by simp; omega)) fun v hv => yl_grd (by rw [sz_eq]; omega) (yl_bnd fun _ e => yl_some ?_)
      subst e
      refine ⟨by simp [hi.1, hv.1]; omega, fun e he => ?_⟩
      rcases List.mem_append.mp he with z | z
      · exact hi.2 e z
      · exact hv.2 e z
    · have e9 : ((9 : Int) - 0).toNat = 9 := rfl
      rw [e9] at hi
      rw [cutL_to (by simp; omega), List.length_take]
      simp
      omega
  · refine yl_bind (yl_rng (fun k (es : List (List Int)) => es.length = k ∧ ∀ e ∈ es, Edge (gi [8, 7, 6, 5, 4, 3, 2, 1, 8, 7, 8, 6, 8, 7, 8, 6] (gi rs (0 : Int).toNat).toNat) e) ⟨rfl, fun _ z => nomatch z⟩ fun k hk es hi => ?_) fun es hi => net_J1_yl hl q0.1 (Int.le_trans q0.2 (by omega)) ?_ hi.2
    · unfold law_net_b2
      refine yl_bind (law_cell_yl ns _ (by omega) (by simp at hk; omega)) fun z _ => yl_gi (by omega) (by omega) (yl_bind (law_small_edge_yl z _ es _ q0.1 q0.2 hi.2) fun v hv => yl_grd (by simp at hk; omega) (yl_bnd fun _ e => yl_some ?_))
      subst e
      refine ⟨by simp [hi.1], fun e he => ?_⟩
      rcases List.mem_append.mp he with z | z
      · exact hi.2 e z
      · rw [List.mem_singleton.mp z]; exact hv
    · have := hi.1
      simp at this ⊢
      omega
end K02

namespace K02
open PySem L2 PL
/-! ### nets -/
/-- number e is an edge that holds v -/
def On (E : List (List Int)) (v e : Int) : Prop := (0 ≤ e ∧ e < (E.length : Int)) ∧ v ∈ gd [] E e
structure WF (n : Int) (E : List (List Int)) : Prop where
  n0 : 0 ≤ n
  n1 : n ≤ 100000
  inr : ∀ e ∈ E, Inr n e
  el : E.length ≤ 100000
  tot : (E.map List.length).sum < 16000000
/-- the edges as they are handed in -/
abbrev raw (H : Bool × List (Bool × List Int)) : List (List Int) := H.2.map (·.2)
theorem raw_len (H : Bool × List (Bool × List Int)) : (raw H).length = H.2.length := List.length_map _
theorem raw_gl {H : Bool × List (Bool × List Int)} {e : Int} (h0 : 0 ≤ e) (h1 : e < (H.2.length : Int)) : gd [] (raw H) e = (gd (false, []) H.2 e).2 := gd_map h0 h1
theorem WF.on {n : Int} {E : List (List Int)} (w : WF n E) {v e : Int} (h : On E v e) : 0 ≤ v ∧ v < n := w.inr _ (gd_mem h.1.1 h.1.2) v h.2
/-! touching -/
def Holders (n : Int) (E : List (List Int)) (hs : List (List Int)) : Prop := (hs.length : Int) = n ∧ ∀ v, 0 ≤ v → v < n → (∀ e, e ∈ gd [] hs v ↔ On E v e) ∧ (gd [] hs v).Pairwise (· ≤ ·)
theorem sum_take (E : List (List Int)) : ∀ k, k < E.length → ((E.take k).map List.length).sum + (gd [] E k).length = ((E.take (k + 1)).map List.length).sum := fun k hk => by
  have e : gd [] E (k : Int) = E[k] := gd_eq (by omega) (by omega)
  rw [e, List.take_succ_eq_append_getElem hk, List.map_append, List.sum_append]
  simp
theorem sum_take_le (E : List (List Int)) (k : Nat) : ((E.take k).map List.length).sum ≤ (E.map List.length).sum := by
  have : (E.map List.length).sum = ((E.take k).map List.length).sum + ((E.drop k).map List.length).sum := by
    rw [← List.sum_append, ← List.map_append, List.take_append_drop]
  omega
theorem touching_yl {n : Int} {H : Bool × List (Bool × List Int)} (w : WF n (raw H)) : Yl (touching n H) (Holders n (raw H)) := by
  have n0 := w.n0
  have n1 := w.n1
  have el := w.el
  have lr := raw_len H
  unfold touching
  rw [lr] at el
  refine yl_grd (by omega) (yl_grd (by rw [rng_len]; omega) (yl_bnd fun hs0 e0 => yl_grd (by omega) ?_))
  -- behind k edges
  refine yl_bind (yl_rng (fun k (hs : List (List Int)) => (hs.length : Int) = n ∧ ∀ v, 0 ≤ v → v < n → (∀ e, e ∈ gd [] hs v ↔ (0 ≤ e ∧ e < (k : Int)) ∧ v ∈ gd [] (raw H) e) ∧ (gd [] hs v).Pairwise (· ≤ ·) ∧ (gd [] hs v).length ≤ (((raw H).take k).map List.length).sum) ?_ fun k hk hs hi => ?_) fun hs h => yl_some ?_
  · subst e0
    refine ⟨by rw [List.length_map, rng_len]; omega, fun v v0 v1 => ?_⟩
    have e : gd [] ((rng 0 n).map fun i => ([] : List Int)) v = [] := (gd_map (e := 0) v0 (by rw [rng_len]; omega)).trans rfl
    rw [e]
    refine ⟨fun e => ⟨fun z => (nomatch z), fun z => by omega⟩, List.Pairwise.nil, Nat.zero_le _⟩
  · have ek : (0 + (k : Int)) = k := by omega
    rw [ek] at hk ⊢
    unfold touching_b1
    refine yl_gd (false, []) (by omega) hk ?_
    rw [← raw_gl (by omega) hk]
    have hkl : k < (raw H).length := by rw [lr]; omega
    have hst := sum_take (raw H) k hkl
    have hsl := sum_take_le (raw H) (k + 1)
    have ht := w.tot
    generalize hE : gd [] (raw H) (k : Int) = E at hst
    have inE : ∀ x ∈ E, 0 ≤ x ∧ x < n := fun x hx => w.inr _ (gd_mem (xs := raw H) (d := []) (i := k) (by omega) (by omega)) x (by rw [← hE] at hx; exact hx)
    refine yl_bind (yl_foldP (fun pre (hs : List (List Int)) => (hs.length : Int) = n ∧ ∀ v, 0 ≤ v → v < n → (∀ e, e ∈ gd [] hs v ↔ ((0 ≤ e ∧ e < (k : Int)) ∧ v ∈ gd [] (raw H) e) ∨ (e = k ∧ v ∈ pre)) ∧ (gd [] hs v).Pairwise (· ≤ ·) ∧ (gd [] hs v).length ≤ (((raw H).take k).map List.length).sum + pre.length) ?_ fun pre x suf ep hs hi => ?_) fun hs h => yl_some ?_
    · refine ⟨hi.1, fun v v0 v1 => ?_⟩
      obtain ⟨a, b, c⟩ := hi.2 v v0 v1
      exact ⟨fun e => by rw [a]; simp, b, by simpa using c⟩
    · have hx := inE x (by rw [ep]; simp)
      obtain ⟨i1, i2⟩ := hi
      have pl : pre.length < E.length := by rw [ep]; simp
      unfold touching_b2
      refine yl_gd [] hx.1 (by omega) ?_
      obtain ⟨a, b, c⟩ := i2 x hx.1 hx.2
      refine yl_grd (by omega) (yl_bnd fun _ e => yl_some ?_)
      subst e
      refine ⟨by rw [setAt_len]; exact i1, fun v v0 v1 => ?_⟩
      have eg : gd [] (setAt hs x (gd [] hs x ++ [(k : Int)])) v = if x = v then gd [] hs x ++ [(k : Int)] else gd [] hs v := gd_set hx.1 (by omega) v0
      rw [eg]
      by_cases ev : x = v
      · subst ev
        rw [if_pos rfl]
        refine ⟨fun e => ?_, ?_, by rw [List.length_append, List.length_append, List.length_singleton, List.length_singleton]; omega⟩
        · rw [List.mem_append, a, List.mem_append, List.mem_singleton, List.mem_singleton]
          grind
        · rw [List.pairwise_append]
          refine ⟨b, by simp, fun y hy z hz => ?_⟩
          rw [List.mem_singleton.mp hz]
          have := (a y).mp hy
          omega
      · rw [if_neg ev]
        obtain ⟨a', b', c'⟩ := i2 v v0 v1
        refine ⟨fun e => ?_, b', by rw [List.length_append, List.length_singleton]; omega⟩
        rw [a']
        simp only [List.mem_append, List.mem_singleton]
        constructor
        · rintro (z | z)
          · exact .inl z
          · exact .inr ⟨z.1, .inl z.2⟩
        · rintro (z | ⟨z1, z2 | z2⟩)
          · exact .inl z
          · exact .inr ⟨z1, z2⟩
          · exact absurd z2.symm ev
    · refine ⟨h.1, fun v v0 v1 => ?_⟩
      obtain ⟨a, b, c⟩ := h.2 v v0 v1
      refine ⟨fun e => ?_, b, by omega⟩
      rw [a]
      constructor
      · rintro (z | ⟨rfl, z⟩)
        · exact ⟨⟨z.1.1, by omega⟩, z.2⟩
        · exact ⟨⟨by omega, by omega⟩, by rw [hE]; exact z⟩
      · rintro ⟨z1, z2⟩
        by_cases q : e = (k : Int)
        · subst q
          exact .inr ⟨rfl, by rw [hE] at z2; exact z2⟩
        · exact .inl ⟨⟨z1.1, by omega⟩, z2⟩
  · refine ⟨h.1, fun v v0 v1 => ?_⟩
    obtain ⟨a, b, c⟩ := h.2 v v0 v1
    refine ⟨fun e => ?_, b⟩
    rw [a]
    unfold On
    rw [lr]
    constructor
    · exact fun z => ⟨⟨z.1.1, by omega⟩, z.2⟩
    · exact fun z => ⟨⟨z.1.1, by omega⟩, z.2⟩
end K02

namespace K02
open PySem L2 PL
/-! fresh_neighbours -/
/-- e is the first of the numbers in p, not yet used, whose edge holds w -/
def First (E : List (List Int)) (used : List Bool) (p : List Int) (w e : Int) : Prop := e ∈ p ∧ gd false used e = false ∧ w ∈ gd [] E e ∧ ∀ e' ∈ p, gd false used e' = false → w ∈ gd [] E e' → e ≤ e'
/-- what stands in the dict behind the numbers in p -/
def Found (E : List (List Int)) (used reached : List Bool) (p : List Int) (m : List (Int × Int)) : Prop := (m.map (·.1)).Nodup ∧ ∀ w e, (w, e) ∈ m ↔ gd false reached w = false ∧ First E used p w e
theorem key_iff {m : List (Int × Int)} {w : Int} : w ∈ m.map (·.1) ↔ ∃ e, (w, e) ∈ m := by simp
theorem first_ex {E : List (List Int)} {used : List Bool} {w : Int} : ∀ {p : List Int}, p.Pairwise (· ≤ ·) → (∃ e ∈ p, gd false used e = false ∧ w ∈ gd [] E e) → ∃ e, First E used p w e
  | [], _, h => by obtain ⟨e, he, _⟩ := h; cases he
  | x :: p, hp, h => by
    have hp' := List.pairwise_cons.mp hp
    by_cases c : gd false used x = false ∧ w ∈ gd [] E x
    · exact ⟨x, .head _, c.1, c.2, fun e' he _ _ => by
        rcases List.mem_cons.mp he with z | z
        · omega
        · exact hp'.1 e' z⟩
    · obtain ⟨e, he, h1, h2⟩ := h
      have : ∃ e ∈ p, gd false used e = false ∧ w ∈ gd [] E e := by
        rcases List.mem_cons.mp he with z | z
        · subst z; exact absurd ⟨h1, h2⟩ c
        · exact ⟨e, z, h1, h2⟩
      obtain ⟨e, a, b, d, f⟩ := first_ex hp'.2 this
      exact ⟨e, .tail _ a, b, d, fun e' he h1 h2 => by
        rcases List.mem_cons.mp he with z | z
        · subst z; exact absurd ⟨h1, h2⟩ c
        · exact f e' z h1 h2⟩
theorem fresh_b2_yl {E : List (List Int)} {used reached : List Bool} {n : Int} (hn : n ≤ 100000) (hr : (reached.length : Int) = n) {x : Int} {c : List Int} (inC : ∀ w ∈ c, 0 ≤ w ∧ w < n) {m0 : List (Int × Int)} (nd0 : (m0.map (·.1)).Nodup) (rg0 : ∀ w ∈ m0.map (·.1), 0 ≤ w ∧ w < n) :
    Yl (foldO (fun (q : List (Int × Int)) (w : Int) => fresh_neighbours_b2 reached x q w) c m0) fun m => (m.map (·.1)).Nodup ∧ (∀ w ∈ m.map (·.1), 0 ≤ w ∧ w < n) ∧ ∀ w e, (w, e) ∈ m ↔ (w, e) ∈ m0 ∨ (e = x ∧ w ∈ c ∧ gd false reached w = false ∧ w ∉ m0.map (·.1)) := by
  refine yl_foldP (fun pre (m : List (Int × Int)) => (m.map (·.1)).Nodup ∧ (∀ w ∈ m.map (·.1), 0 ≤ w ∧ w < n) ∧ ∀ w e, (w, e) ∈ m ↔ (w, e) ∈ m0 ∨ (e = x ∧ w ∈ pre ∧ gd false reached w = false ∧ w ∉ m0.map (·.1))) ⟨nd0, rg0, fun w e => by simp⟩ fun pre v suf ep m ⟨i1, i2, i3⟩ => ?_
  have hv := inC v (by rw [ep]; simp)
  unfold fresh_neighbours_b2
  refine yl_gd false hv.1 (by omega) (yl_ite (fun h => ?_) fun h => yl_some ⟨i1, i2, fun w e => ?_⟩)
  · simp only [Bool.and_eq_true, Bool.not_eq_true'] at h
    obtain ⟨h1, h2⟩ := h
    have h2 := dhas_false.mp h2
    have hlen := nodup_len 100000 (m.map (·.1)) i1 fun w hw => by have := i2 w hw; omega
    rw [List.length_map] at hlen
    refine yl_grd (by omega) (yl_bnd fun _ e => yl_some ?_)
    subst e
    rw [dput_new h2]
    refine ⟨?_, fun w hw => ?_, fun w e => ?_⟩
    · rw [List.map_append, List.nodup_append]
      exact ⟨i1, by simp, fun a ha b hb e => by simp at hb; subst hb; subst e; exact h2 ha⟩
    · rw [List.map_append, List.mem_append] at hw
      rcases hw with z | z
      · exact i2 w z
      · simp at z; subst z; exact hv
    · have h3 : v ∉ m0.map (·.1) := fun z => h2 (by
        obtain ⟨e', he⟩ := key_iff.mp z
        exact key_iff.mpr ⟨e', (i3 v e').mpr (.inl he)⟩)
      rw [List.mem_append, i3]
      simp only [List.mem_singleton, Prod.mk.injEq, List.mem_append]
      grind
  · rw [i3]
    by_cases hw : w = v
    · subst hw
      have : gd false reached w = true ∨ w ∈ m.map (·.1) := by
        rw [← dhas_iff]
        cases h1 : gd false reached w <;> cases h2 : dhas m w <;> simp_all
      constructor
      · rintro (z | z)
        · exact .inl z
        · exact .inr ⟨z.1, List.mem_append_left _ z.2.1, z.2.2⟩
      · rintro (z | ⟨z1, z2, z3, z4⟩)
        · exact .inl z
        · rcases this with q | q
          · rw [q] at z3; cases z3
          · obtain ⟨e', he⟩ := key_iff.mp q
            rcases (i3 w e').mp he with y | y
            · exact absurd (key_iff.mpr ⟨e', y⟩) z4
            · exact .inr ⟨z1, y.2.1, z3, z4⟩
    · simp only [List.mem_append, List.mem_singleton]
      grind
/-- what fresh_neighbours tells -/
def FreshOk (E : List (List Int)) (used reached : List Bool) (p : List Int) (r : List (Int × Int) × List Bool) : Prop :=
  ((r.1.map (·.1)).Pairwise (· < ·) ∧ ∀ w e, (w, e) ∈ r.1 ↔ gd false reached w = false ∧ First E used p w e) ∧ r.2.length = used.length ∧ ∀ e, 0 ≤ e → (gd false r.2 e = true ↔ gd false used e = true ∨ e ∈ p)
theorem fresh_neighbours_yl {n v : Int} {H : Bool × List (Bool × List Int)} (w : WF n (raw H)) {hs : List (List Int)} (hh : Holders n (raw H) hs) {used reached : List Bool} (hu : used.length = H.2.length) (hr : (reached.length : Int) = n) (v0 : 0 ≤ v) (v1 : v < n) :
    Yl (fresh_neighbours v H hs used reached) (FreshOk (raw H) used reached (gd [] hs v)) := by
  obtain ⟨h1, h2⟩ := hh.2 v v0 v1
  have lr := raw_len H
  have n1 := w.n1
  unfold fresh_neighbours
  refine yl_bnd fun m0 e0 => yl_gd [] v0 (by have := hh.1; omega) ?_
  generalize hp : gd [] hs v = p at h1 h2
  have onp : ∀ e ∈ p, On (raw H) v e := fun e he => (h1 e).mp he
  refine yl_bind (yl_foldP (fun pre (s : List Bool × List (Int × Int)) => s.1.length = used.length ∧ (∀ e, 0 ≤ e → (gd false s.1 e = true ↔ gd false used e = true ∨ e ∈ pre)) ∧ Found (raw H) used reached pre s.2 ∧ ∀ w ∈ s.2.map (·.1), 0 ≤ w ∧ w < n) ?_ fun pre x suf ep ⟨us, m⟩ hi => ?_) fun ⟨us, m⟩ hi => ?_
  · subst e0
    refine ⟨rfl, fun e _ => by simp, ⟨List.nodup_nil, fun w e => ?_⟩, fun w z => nomatch z⟩
    simp [First]
  · obtain ⟨i1, i2, ⟨i3, i4⟩, i5⟩ := hi
    simp only at i1 i2 i3 i4 i5
    have hx := onp x (by rw [ep]; simp)
    have hx1 : x < (H.2.length : Int) := by have := hx.1.2; omega
    have le : ∀ e ∈ pre, e ≤ x := fun e he => by
      rw [ep] at h2
      exact (List.pairwise_append.mp h2).2.2 e he x (.head _)
    show Yl (fresh_neighbours_b1 H reached us m x) _
    unfold fresh_neighbours_b1
    refine yl_gd false hx.1.1 (by omega) (yl_ite (fun h => ?_) fun h => yl_some ?_)
    · have h : gd false us x = false := by simpa using h
      have hux : gd false used x = false ∧ x ∉ pre := by
        have := i2 x hx.1.1
        rw [h] at this
        simp at this
        exact this
      refine yl_gd false hx.1.1 (by omega) (yl_bnd fun us' eu => yl_gd (false, []) hx.1.1 hx1 ?_)
      rw [← raw_gl hx.1.1 hx1]
      refine yl_bind (fresh_b2_yl (E := raw H) (used := used) (n := n) n1 hr (fun w' hw => w.on ⟨hx.1, hw⟩) i3 i5) fun m' ⟨j1, j2, j3⟩ => yl_some ?_
      subst eu
      refine ⟨by rw [setAt_len]; exact i1, fun e e0 => ?_, ⟨j1, fun w' e => ?_⟩, j2⟩
      · rw [gd_set hx.1.1 (by omega) e0]
        by_cases c : x = e
        · subst c; simp
        · rw [if_neg c, i2 e e0]
          simp only [List.mem_append, List.mem_singleton]
          grind
      · rw [j3, i4]
        have nk : w' ∉ m.map (·.1) ↔ ∀ e, ¬ (gd false reached w' = false ∧ First (raw H) used pre w' e) := by
          rw [key_iff]
          constructor
          · exact fun z e q => z ⟨e, (i4 w' e).mpr q⟩
          · exact fun z ⟨e, q⟩ => z e ((i4 w' e).mp q)
        rw [nk]
        constructor
        · rintro (⟨a, b1, b2, b3, b4⟩ | ⟨rfl, a2, a3, a4⟩)
          · refine ⟨a, List.mem_append_left _ b1, b2, b3, fun e' he q1 q2 => ?_⟩
            rcases List.mem_append.mp he with z | z
            · exact b4 e' z q1 q2
            · rw [List.mem_singleton.mp z]; exact le e b1
          · refine ⟨a3, List.mem_append_right _ (.head _), hux.1, a2, fun e' he q1 q2 => ?_⟩
            rcases List.mem_append.mp he with z | z
            · exfalso
              obtain ⟨e2, f2⟩ := first_ex (E := raw H) (used := used) (w := w') (p := pre) (by rw [ep] at h2; exact (List.pairwise_append.mp h2).1) ⟨e', z, q1, q2⟩
              exact a4 e2 ⟨a3, f2⟩
            · rw [List.mem_singleton.mp z]; exact Int.le_refl _
        · rintro ⟨a, b1, b2, b3, b4⟩
          rcases List.mem_append.mp b1 with z | z
          · exact .inl ⟨a, z, b2, b3, fun e' he => b4 e' (List.mem_append_left _ he)⟩
          · have z := List.mem_singleton.mp z
            subst z
            by_cases c : ∃ e' ∈ pre, gd false used e' = false ∧ w' ∈ gd [] (raw H) e'
            · exfalso
              obtain ⟨e', he, q1, q2⟩ := c
              have h3 := b4 e' (List.mem_append_left _ he) q1 q2
              have h4 := le e' he
              have : e = e' := by omega
              subst this
              exact hux.2 he
            · exact .inr ⟨rfl, b3, a, fun e' q => c ⟨e', q.2.1, q.2.2.1, q.2.2.2.1⟩⟩
    · have h : gd false us x = true := by simpa using h
      have hux := (i2 x hx.1.1).mp h
      refine ⟨i1, fun e e0 => ?_, ⟨i3, fun w' e => ?_⟩, i5⟩
      · rw [i2 e e0]
        simp only [List.mem_append, List.mem_singleton]
        constructor
        · grind
        · rintro (z | z | rfl)
          · exact .inl z
          · exact .inr z
          · exact hux
      · rw [i4]
        unfold First
        simp only [List.mem_append, List.mem_singleton]
        constructor
        · rintro ⟨a, b1, b2, b3, b4⟩
          refine ⟨a, .inl b1, b2, b3, fun e' he q1 q2 => ?_⟩
          rcases he with z | z
          · exact b4 e' z q1 q2
          · subst z
            rcases hux with y | y
            · rw [y] at q1; cases q1
            · exact b4 _ y q1 q2
        · rintro ⟨a, b1, b2, b3, b4⟩
          refine ⟨a, ?_, b2, b3, fun e' he => b4 e' (.inl he)⟩
          rcases b1 with z | z
          · exact z
          · subst z
            rcases hux with y | y
            · rw [y] at b2; cases b2
            · exact y
  · obtain ⟨i1, i2, ⟨i3, i4⟩, i5⟩ := hi
    simp only at i1 i2 i3 i4 i5
    have hl : lcO (fun (i : Int) => ((dget m i).bind fun v => some (some (i, v)) : Option (Option (Int × Int)))) (sortI (m.map (·.1))) = some ((sortI (m.map (·.1))).filterMap fun i => (dget m i).map fun v => (i, v)) := by
      refine yl_lcO _ fun i hi => ?_
      have hi := (sortI_perm _).mem_iff.mp hi
      obtain ⟨e, he⟩ := key_iff.mp hi
      rw [(dget_mem i3).mpr he]
      rfl
    dsimp only
    rw [hl]
    refine yl_some ⟨⟨?_, fun w' e => ?_⟩, i1, i2⟩
    · have key : ∀ xs : List Int, (∀ x ∈ xs, x ∈ m.map (·.1)) → ((xs.filterMap fun i => (dget m i).map fun v => (i, v)).map (·.1)) = xs := by
        intro xs
        induction xs with
        | nil => intro _; rfl
        | cons x xs ih =>
          intro hx
          obtain ⟨e, he⟩ := key_iff.mp (hx x (.head _))
          rw [List.filterMap_cons, (dget_mem i3).mpr he]
          simp only [Option.map_some, List.map_cons]
          rw [ih fun y hy => hx y (.tail _ hy)]
      simp only
      rw [key _ fun x hx => (sortI_perm _).mem_iff.mp hx]
      exact sortI_asc i3
    · simp only
      rw [← i4, List.mem_filterMap]
      constructor
      · rintro ⟨i, hi, e1⟩
        obtain ⟨v', e2, e3⟩ := Option.map_eq_some_iff.mp e1
        cases e3
        exact (dget_mem i3).mp e2
      · intro q
        exact ⟨w', (sortI_perm _).mem_iff.mpr (key_iff.mpr ⟨e, q⟩), by rw [(dget_mem i3).mpr q]; rfl⟩
end K02

namespace K02
open PySem L2 PL
/-! ### strict total orders -/
structure STO {α : Type} (lt : α → α → Bool) : Prop where
  irr : ∀ a, lt a a = false
  tr : ∀ a b c, lt a b = true → lt b c = true → lt a c = true
  tot : ∀ a b, a ≠ b → lt a b = true ∨ lt b a = true
section
variable {α β : Type} {lt : α → α → Bool} {l1 : β → β → Bool}
theorem STO.asym (h : STO lt) {a b : α} (h1 : lt a b = true) : lt b a = false := by
  cases e : lt b a with
  | false => rfl
  | true => have := h.tr _ _ _ h1 e; rw [h.irr] at this; cases this
theorem sto_int : STO (fun a b : Int => decide (a < b)) := ⟨fun a => by simp, fun a b c h g => by simp at *; omega, fun a b h => by simp; omega⟩
theorem sto_L [DecidableEq α] (h : STO lt) : STO (ordL lt) := ⟨irr_L h.irr, fun a => by
  induction a with
  | nil =>
    intro b c h1 h2
    cases c with
    | nil => cases b <;> cases h2
    | cons => rfl
  | cons x xs ih =>
    intro b c h1 h2
    cases b with
    | nil => cases h1
    | cons y ys =>
      cases c with
      | nil => cases h2
      | cons z zs =>
        unfold ordL at h1 h2 ⊢
        by_cases e1 : x = y
        · subst e1
          rw [if_pos rfl] at h1
          by_cases e2 : x = z
          · subst e2
            rw [if_pos rfl] at h2 ⊢
            exact ih _ _ h1 h2
          · rw [if_neg e2] at h2 ⊢
            exact h2
        · rw [if_neg e1] at h1
          by_cases e2 : y = z
          · subst e2
            rw [if_neg e1]
            exact h1
          · rw [if_neg e2] at h2
            have h3 := h.tr _ _ _ h1 h2
            have : x ≠ z := fun e => by subst e; rw [h.irr] at h3; cases h3
            rw [if_neg this]
            exact h3, fun a => by
  induction a with
  | nil =>
    intro b h1
    cases b with
    | nil => exact absurd rfl h1
    | cons => exact .inl rfl
  | cons x xs ih =>
    intro b h1
    cases b with
    | nil => exact .inr rfl
    | cons y ys =>
      unfold ordL
      by_cases e : x = y
      · subst e
        rw [if_pos rfl, if_pos rfl]
        exact ih _ fun e => h1 (by rw [e])
      · rw [if_neg e, if_neg fun z => e z.symm]
        exact h.tot _ _ e⟩
theorem sto_T2 [DecidableEq α] (h : STO lt) (g : STO l1) : STO (ordT2 lt l1) := ⟨fun a => by unfold ordT2; simp [g.irr], fun a b c h1 h2 => by
  unfold ordT2 at *
  by_cases e1 : a.1 = b.1
  · rw [if_pos e1] at h1
    by_cases e2 : b.1 = c.1
    · rw [if_pos e2] at h2
      rw [if_pos (e1.trans e2)]
      exact g.tr _ _ _ h1 h2
    · rw [if_neg e2] at h2
      rw [if_neg (e1 ▸ e2), e1]
      exact h2
  · rw [if_neg e1] at h1
    by_cases e2 : b.1 = c.1
    · rw [if_neg (e2 ▸ e1), ← e2]
      exact h1
    · rw [if_neg e2] at h2
      have h3 := h.tr _ _ _ h1 h2
      have : a.1 ≠ c.1 := fun e => by rw [e, h.irr] at h3; cases h3
      rw [if_neg this]
      exact h3, fun a b hn => by
  unfold ordT2
  by_cases e : a.1 = b.1
  · rw [if_pos e, if_pos e.symm]
    exact g.tot _ _ fun z => hn (Prod.ext e z)
  · rw [if_neg e, if_neg fun z => e z.symm]
    exact h.tot _ _ e⟩
theorem sort_uniq (h : STO lt) {xs ys : List α} (hy : ys.Pairwise fun a b => lt a b = true) (p : xs.Perm ys) : sortBy lt xs = ys := by
  have le : ∀ a b, lt a b = true → (!lt b a) = true := fun a b z => by rw [h.asym z]; rfl
  have s1 : (sortBy lt xs).Pairwise fun a b => (!lt b a) = true := by
    refine List.pairwise_mergeSort (le := fun a b => !lt b a) (fun a b c h1 h2 => ?_) (fun a b => ?_) xs
    · simp at *
      cases e : lt c a with
      | false => rfl
      | true =>
        by_cases q : b = c
        · subst q; rw [h1] at e; cases e
        · rcases h.tot _ _ q with z | z
          · have := h.tr _ _ _ z e; rw [h1] at this; cases this
          · rw [h2] at z; cases z
    · simp
      cases e : lt b a with
      | false => exact .inl rfl
      | true => exact .inr (h.asym e)
  refine List.Perm.eq_of_pairwise (le := fun a b => (!lt b a) = true) (fun a b _ _ q1 q2 => ?_) s1 (hy.imp fun {a b} z => le a b z) (sortBy_perm.trans p)
  simp at q1 q2
  refine Classical.byContradiction fun c => ?_
  rcases h.tot _ _ c with z | z
  · rw [q2] at z; cases z
  · rw [q1] at z; cases z
end
/-! ### rows by length, then by their nodes -/
abbrev ltI : Int → Int → Bool := fun a b => decide (a < b)
def rowLt (a b : List Int) : Bool := ordT2 ltI (ordL ltI) ((a.length : Int), a) ((b.length : Int), b)
theorem sto_row : STO rowLt := by
  have h := sto_T2 sto_int (sto_L sto_int)
  exact ⟨fun a => h.irr _, fun a b c => h.tr _ _ _, fun a b n => h.tot _ _ fun e => n (by injection e)⟩
theorem rowLt_len {a b : List Int} (h : a.length < b.length) : rowLt a b = true := by
  unfold rowLt ordT2
  rw [if_neg (by simp; omega)]
  simp
  omega
theorem rowLt_le {a b : List Int} (h : rowLt a b = true) : a.length ≤ b.length := by
  unfold rowLt ordT2 at h
  by_cases e : (a.length : Int) = b.length
  · omega
  · rw [if_neg e] at h
    simp at h
    omega
theorem ordL_snoc : ∀ {a b : List Int} {x y : Int}, a.length = b.length → ordL ltI (a ++ [x]) (b ++ [y]) = if a = b then ltI x y else ordL ltI a b
  | [], [], x, y, _ => by
    simp only [List.nil_append, if_pos]
    unfold ordL
    by_cases e : x = y
    · subst e; simp [ordL]
    · rw [if_neg e]
  | a :: as, b :: bs, x, y, h => by
    have h : as.length = bs.length := by simpa using h
    have ih := ordL_snoc (x := x) (y := y) h
    simp only [List.cons_append]
    unfold ordL
    by_cases e : a = b
    · subst e
      rw [if_pos rfl, if_pos rfl, ih]
      by_cases q : as = bs
      · rw [if_pos q, if_pos (by rw [q])]
      · rw [if_neg q, if_neg fun z => q (by injection z)]
    · rw [if_neg e, if_neg e, if_neg fun z => e (by injection z)]
theorem rowLt_snoc {a b : List Int} (x y : Int) (h : rowLt a b = true) : rowLt (a ++ [x]) (b ++ [y]) = true := by
  have hl := rowLt_le h
  by_cases e : a.length = b.length
  · unfold rowLt ordT2 at *
    rw [if_pos (by simp only; omega)] at h
    rw [if_pos (by simp; omega)]
    show ordL ltI (a ++ [x]) (b ++ [y]) = true
    have ne : a ≠ b := fun z => by
      subst z
      have h : ordL ltI a a = true := h
      rw [(sto_L sto_int).irr] at h
      cases h
    rw [ordL_snoc e, if_neg ne]
    exact h
  · exact rowLt_len (by simp; omega)
theorem rowLt_last {a : List Int} {x y : Int} (h : x < y) : rowLt (a ++ [x]) (a ++ [y]) = true := by
  unfold rowLt ordT2
  rw [if_pos (by simp)]
  show ordL ltI (a ++ [x]) (a ++ [y]) = true
  rw [ordL_snoc rfl, if_pos rfl]
  simpa using h
/-! ### the rows that are due -/
def Adj (E : List (List Int)) (u w : Int) : Prop := ∃ e, On E u e ∧ w ∈ gd [] E e
structure Rows (n : Int) (E : List (List Int)) (s : Int) (R : Int → Option (List Int)) : Prop where
  rs : R s = some [s]
  sr : 0 ≤ s ∧ s < n
  ri : ∀ v r, R v = some r → v = s ∨ ∃ u q, R u = some q ∧ Adj E u v ∧ r = q ++ [v]
  rc : ∀ u q w, R u = some q → Adj E u w → ∃ r, R w = some r ∧ rowLt (q ++ [w]) r = false
/-- u stands ahead of v in the row of v -/
def Par (R : Int → Option (List Int)) (u v : Int) : Prop := ∃ q, R u = some q ∧ R v = some (q ++ [v])
def KeyLt (R : Int → Option (List Int)) (a b : Int) : Prop := ∃ q r, R a = some q ∧ R b = some r ∧ rowLt q r = true
def EdgeMin (E : List (List Int)) (u w e : Int) : Prop := (On E u e ∧ w ∈ gd [] E e) ∧ ∀ e', On E u e' → w ∈ gd [] E e' → e ≤ e'
def LinkOf (E : List (List Int)) (R : Int → Option (List Int)) (l : Int × Int × Int) : Prop := Par R l.1 l.2.2 ∧ EdgeMin E l.1 l.2.2 l.2.1
section
variable {n s : Int} {E : List (List Int)} {R : Int → Option (List Int)}
theorem Rows.last (h : Rows n E s R) {v : Int} {r : List Int} (e : R v = some r) : ∃ q, r = q ++ [v] := by
  rcases h.ri v r e with z | ⟨u, q, _, _, z⟩
  · subst z
    rw [h.rs] at e
    cases e
    exact ⟨[], rfl⟩
  · exact ⟨q, z⟩
theorem Rows.inj (h : Rows n E s R) {u v : Int} {r : List Int} (e : R u = some r) (e' : R v = some r) : u = v := by
  obtain ⟨q, z⟩ := h.last e
  obtain ⟨q', z'⟩ := h.last e'
  rw [z] at z'
  have := congrArg List.getLast? z'
  simpa using this
theorem Rows.ne (h : Rows n E s R) {v : Int} : R v ≠ some [] := fun e => by
  obtain ⟨q, z⟩ := h.last e
  simp at z
theorem Rows.par_s (h : Rows n E s R) {u : Int} : ¬ Par R u s := fun ⟨q, e1, e2⟩ => by
  rw [h.rs] at e2
  have : q = [] := by
    have := congrArg List.length (Option.some.inj e2)
    simp at this
    exact this
  subst this
  exact h.ne e1
theorem Rows.par_uniq (h : Rows n E s R) {u u' v : Int} : Par R u v → Par R u' v → u = u' := fun ⟨q, e1, e2⟩ ⟨q', e3, e4⟩ => by
  rw [e2] at e4
  have : q = q' := by simpa using Option.some.inj e4
  subst this
  exact h.inj e1 e3
theorem Rows.par_adj (h : Rows n E s R) {u v : Int} (p : Par R u v) : Adj E u v := by
  obtain ⟨q, e1, e2⟩ := p
  rcases h.ri v _ e2 with z | ⟨u', q', e3, a, z⟩
  · subst z
    exact absurd ⟨q, e1, e2⟩ h.par_s
  · have : q = q' := by simpa using z
    subst this
    rw [h.inj e1 e3]
    exact a
theorem Rows.par_ex (h : Rows n E s R) {v : Int} {r : List Int} (e : R v = some r) (hv : v ≠ s) : ∃ u q, R u = some q ∧ r = q ++ [v] ∧ Par R u v := by
  rcases h.ri v r e with z | ⟨u, q, e3, a, z⟩
  · exact absurd z hv
  · exact ⟨u, q, e3, z, q, e3, by rw [e, z]⟩
/-- what spread tells -/
structure SpreadOk (E : List (List Int)) (s : Int) (R : Int → Option (List Int)) (links : List (Int × Int × Int)) : Prop where
  as : (s :: links.map (·.2.2)).Pairwise (KeyLt R)
  me : ∀ v, v ∈ s :: links.map (·.2.2) ↔ ∃ r, R v = some r
  lk : ∀ l ∈ links, LinkOf E R l
theorem key_irr (a : Int) : ¬ KeyLt R a a := fun ⟨q, r, e1, e2, h⟩ => by
  rw [e1] at e2
  cases e2
  rw [sto_row.irr] at h
  cases h
theorem key_asym {a b : Int} (h : KeyLt R a b) : ¬ KeyLt R b a := fun ⟨q', r', e3, e4, h'⟩ => by
  obtain ⟨q, r, e1, e2, h⟩ := h
  rw [e1] at e4
  rw [e2] at e3
  cases e3
  cases e4
  rw [sto_row.asym h] at h'
  cases h'
theorem key_nodup {xs : List Int} (h : xs.Pairwise (KeyLt R)) : xs.Nodup := h.imp fun {a b} z e => by subst e; exact key_irr _ z
theorem key_uniq {xs ys : List Int} (h1 : xs.Pairwise (KeyLt R)) (h2 : ys.Pairwise (KeyLt R)) (h : ∀ z, z ∈ xs ↔ z ∈ ys) : xs = ys :=
  List.Perm.eq_of_pairwise (le := KeyLt R) (fun a b _ _ q1 q2 => absurd q2 (key_asym q1)) h1 h2 ((List.perm_ext_iff_of_nodup (key_nodup h1) (key_nodup h2)).mpr h)
theorem link_uniq (h : Rows n E s R) : ∀ {xs ys : List (Int × Int × Int)}, (∀ l ∈ xs, LinkOf E R l) → (∀ l ∈ ys, LinkOf E R l) → xs.map (·.2.2) = ys.map (·.2.2) → xs = ys
  | [], [], _, _, _ => rfl
  | [], y :: ys, _, _, e => by cases e
  | x :: xs, [], _, _, e => by cases e
  | x :: xs, y :: ys, h1, h2, e => by
    rw [List.map_cons, List.map_cons] at e
    injection e with e1 e2
    have a := h1 x (.head _)
    have b := h2 y (.head _)
    have : x = y := by
      obtain ⟨x1, x2, x3⟩ := x
      obtain ⟨y1, y2, y3⟩ := y
      simp only at e1
      subst e1
      obtain ⟨p1, m1⟩ := a
      obtain ⟨p2, m2⟩ := b
      have := h.par_uniq p1 p2
      simp only at this
      subst this
      have q1 := m1.2 _ m2.1.1 m2.1.2
      have q2 := m2.2 _ m1.1.1 m1.1.2
      have : x2 = y2 := by simp only at q1 q2; omega
      rw [this]
    rw [this, link_uniq h (fun l hl => h1 l (.tail _ hl)) (fun l hl => h2 l (.tail _ hl)) e2]
theorem spread_uniq (h : Rows n E s R) {xs ys : List (Int × Int × Int)} (h1 : SpreadOk E s R xs) (h2 : SpreadOk E s R ys) : xs = ys := by
  have e := key_uniq h1.as h2.as fun z => (h1.me z).trans (h2.me z).symm
  injection e with _ e
  exact link_uniq h h1.lk h2.lk e
end
end K02

namespace K02
open PySem L2 PL
theorem fuelN_big {k : Nat} (h : k < 1000000) : k < fuelN := by unfold fuelN; omega
/-! spread -/
structure Spr (n s : Int) (E : List (List Int)) (R : Int → Option (List Int)) (used reached : List Bool) (ord : List Int) (links : List (Int × Int × Int)) (a : Int) : Prop where
  lu : used.length = E.length
  lr : (reached.length : Int) = n
  a0 : 0 ≤ a
  a1 : a ≤ (ord.length : Int)
  ol : ord = s :: links.map (·.2.2)
  as : ord.Pairwise (KeyLt R)
  ir : Inr n ord
  rc : ∀ v, 0 ≤ v → v < n → (gd false reached v = true ↔ v ∈ ord)
  me : ∀ v, v ∈ ord ↔ v = s ∨ ∃ i, (0 ≤ i ∧ i < a) ∧ Par R (gd 0 ord i) v
  us : ∀ e, 0 ≤ e → e < (E.length : Int) → gd false used e = true → ∀ w ∈ gd [] E e, w ∈ ord
  lk : ∀ l ∈ links, LinkOf E R l
theorem b2_yl {n u : Int} {reached : List Bool} {ord : List Int} {links : List (Int × Int × Int)} (hn : n ≤ 100000) (lr : (reached.length : Int) = n) {v : List (Int × Int)} (iv : ∀ w ∈ v.map (·.1), 0 ≤ w ∧ w < n) (ml : ord.length + v.length ≤ 200000) (kl : links.length + v.length ≤ 200000) :
    Yl (foldO (fun (q : ((List Bool) × (List Int) × (List (Int × Int × Int)))) (w : (Int × Int)) => spread_b2 u q.1 q.2.1 q.2.2 w.1 w.2) v (reached, ord, links)) fun s => (s.1.length : Int) = n ∧ s.2.1 = ord ++ v.map (·.1) ∧ s.2.2 = links ++ v.map (fun w => (u, w.2, w.1)) ∧ ∀ w, 0 ≤ w → w < n → (gd false s.1 w = true ↔ gd false reached w = true ∨ w ∈ v.map (·.1)) := by
  refine yl_foldP (fun (pre : List (Int × Int)) (s : List Bool × List Int × List (Int × Int × Int)) => (s.1.length : Int) = n ∧ s.2.1 = ord ++ pre.map (·.1) ∧ s.2.2 = links ++ pre.map (fun w => (u, w.2, w.1)) ∧ ∀ w, 0 ≤ w → w < n → (gd false s.1 w = true ↔ gd false reached w = true ∨ w ∈ pre.map (·.1))) ⟨lr, by simp, by simp, fun w _ _ => by simp⟩ fun pre x suf ep ⟨r, m, k⟩ ⟨i1, i2, i4, i3⟩ => ?_
  simp only at i1 i2 i3 i4
  have hx := iv x.1 (by rw [ep]; simp)
  have hl : pre.length < v.length := by rw [ep]; simp
  show Yl (spread_b2 u r m k x.1 x.2) _
  unfold spread_b2
  refine yl_gd false hx.1 (by omega) (yl_bnd fun _ e => yl_grd (by rw [i2, List.length_append, List.length_map]; omega) (yl_bnd fun _ e' => yl_grd (by rw [i4, List.length_append, List.length_map]; omega) (yl_bnd fun _ e'' => yl_some ?_)))
  subst e e' e''
  refine ⟨by rw [setAt_len]; exact i1, by rw [i2]; simp, by rw [i4]; simp, fun w w0 w1 => ?_⟩
  show gd false (setAt r x.1 true) w = true ↔ _
  rw [gd_set hx.1 (by omega) w0]
  by_cases c : x.1 = w
  · rw [if_pos c]; simp [c]
  · rw [if_neg c, i3 w w0 w1]
    simp only [List.map_append, List.mem_append, List.map_cons, List.map_nil, List.mem_singleton]
    grind
section
variable {n s a : Int} {E : List (List Int)} {R : Int → Option (List Int)} {used reached : List Bool} {ord : List Int} {links : List (Int × Int × Int)}
theorem asc_at {xs : List Int} (h : xs.Pairwise (KeyLt R)) {i j : Int} (i0 : 0 ≤ i) (hij : i < j) (j1 : j < (xs.length : Int)) : KeyLt R (gd 0 xs i) (gd 0 xs j) := by
  rw [gd_eq i0 (by omega), gd_eq (by omega) j1]
  exact List.pairwise_iff_getElem.mp h _ _ _ _ (by omega)
/-- what lies ahead of the node that is taken has been taken -/
theorem Spr.seg (h : Rows n E s R) (i : Spr n s E R used reached ord links a) (ha : a < (ord.length : Int)) {q : List Int} (hq : R (gd 0 ord a) = some q) : ∀ (m : Nat) (x : Int) (p : List Int), p.length ≤ m → R x = some p → rowLt p q = true → ∃ k, (0 ≤ k ∧ k < a) ∧ gd 0 ord k = x
  | 0, x, p, hm, hx, hl => by
    have : p = [] := List.eq_nil_of_length_eq_zero (by omega)
    subst this
    exact absurd hx h.ne
  | m + 1, x, p, hm, hx, hl => by
    have inord : x ∈ ord → ∃ k, (0 ≤ k ∧ k < a) ∧ gd 0 ord k = x := fun hm => by
      obtain ⟨k, k0, k1, ek⟩ := mem_gd (d := 0) hm
      by_cases c : k < a
      · exact ⟨k, ⟨k0, c⟩, ek⟩
      · exfalso
        have hk : KeyLt R x (gd 0 ord a) := ⟨p, q, hx, hq, hl⟩
        by_cases c2 : k = a
        · subst c2
          rw [ek] at hk
          exact key_irr _ hk
        · have := asc_at i.as i.a0 (show a < k by omega) k1
          rw [ek] at this
          exact key_asym hk this
    by_cases c : x = s
    · exact inord (by rw [i.ol, c]; exact .head _)
    · obtain ⟨y, p', hy, ep, hp⟩ := h.par_ex hx c
      have ll := rowLt_le hl
      rw [ep] at ll hm
      simp at ll hm
      obtain ⟨k, hk, ek⟩ := Spr.seg h i ha hq m y p' (by omega) hy (rowLt_len (by omega))
      exact inord ((i.me x).mpr (.inr ⟨k, hk, by rw [ek]; exact hp⟩))
theorem spread_b1_yl {H : Bool × List (Bool × List Int)} (w : WF n (raw H)) {hs : List (List Int)} (hh : Holders n (raw H) hs) (h : Rows n (raw H) s R) (i : Spr n s (raw H) R used reached ord links a) (ha : a < (ord.length : Int)) :
    Yl (spread_b1 H hs used reached ord links a) fun z => match z with
      | .nx t => Spr n s (raw H) R t.1 t.2.1 t.2.2.1 t.2.2.2.1 t.2.2.2.2 ∧ t.2.2.2.2 = a + 1
      | .bk t => False
      | .rt r => False := by
  have lr := raw_len H
  have n1 := w.n1
  have um : gd 0 ord a ∈ ord := gd_mem i.a0 ha
  have hv := i.ir _ um
  unfold spread_b1
  refine yl_gd 0 i.a0 ha (yl_bnd fun u eu => ?_)
  rw [← eu] at um hv
  have hR : ∃ q, R u = some q := by
    rcases (i.me u).mp um with z | ⟨k, hk, q, e1, e2⟩
    · exact ⟨_, z ▸ h.rs⟩
    · exact ⟨_, e2⟩
  obtain ⟨q, hq⟩ := hR
  obtain ⟨p1, p2⟩ := hh.2 u hv.1 hv.2
  refine yl_bind (fresh_neighbours_yl w hh (by rw [i.lu, lr]) i.lr hv.1 hv.2) fun ⟨fs, u'⟩ hf => ?_
  obtain ⟨⟨f1, f2⟩, f3, f4⟩ := hf
  simp only at f1 f2 f3 f4
  generalize hp : gd [] hs u = p at p1 p2 f2 f4
  -- an edge of u with a node that is not reached has not been used
  have fresh : ∀ x e, On (raw H) u e → x ∈ gd [] (raw H) e → x ∉ ord → gd false used e = false := fun x e ho hx hn => by
    cases hu : gd false used e with
    | false => rfl
    | true => exact absurd (i.us e ho.1.1 ho.1.2 hu x hx) hn
  have nreached : ∀ x, 0 ≤ x → x < n → (gd false reached x = false ↔ x ∉ ord) := fun x x0 x1 => by
    have := i.rc x x0 x1
    cases hr : gd false reached x with
    | false => rw [hr] at this; exact ⟨fun _ z => (nomatch this.mpr z), fun _ => rfl⟩
    | true => rw [hr] at this; exact ⟨fun z => (nomatch z), fun z => absurd (this.mp rfl) z⟩
  have noPar : ∀ x, Par R u x → x ∉ ord := fun x px hx => by
    rcases (i.me x).mp hx with z | ⟨k, hk, pk⟩
    · subst z; exact h.par_s px
    · have e := h.par_uniq px pk
      have := asc_at i.as hk.1 hk.2 ha
      rw [← e, ← eu] at this
      exact key_irr _ this
  -- the fresh ones are those in whose row u stands ahead
  have fk : ∀ x, x ∈ fs.map (·.1) ↔ Par R u x := fun x => by
    constructor
    · intro hx
      obtain ⟨e, he⟩ := key_iff.mp hx
      obtain ⟨g1, g2, g3, g4, _⟩ := (f2 x e).mp he
      have ho := (p1 e).mp g2
      have hxn := w.on ⟨ho.1, g4⟩
      have hno := (nreached x hxn.1 hxn.2).mp g1
      obtain ⟨r, hr, hle⟩ := h.rc u q x hq ⟨e, ho, g4⟩
      by_cases c : x = s
      · subst c
        exact absurd (by rw [i.ol]; exact .head _) hno
      · obtain ⟨y, q', hy, er, hpar⟩ := h.par_ex hr c
        by_cases c2 : q' = q
        · subst c2
          rw [h.inj hq hy]
          exact hpar
        · exfalso
          have hlt : rowLt q' q = true := by
            rcases sto_row.tot _ _ c2 with z | z
            · exact z
            · have := rowLt_snoc x x z
              rw [er] at hle
              rw [hle] at this
              cases this
          obtain ⟨k, hk, ek⟩ := i.seg h ha (eu ▸ hq) q'.length y q' (Nat.le_refl _) hy hlt
          exact hno ((i.me x).mpr (.inr ⟨k, hk, by rw [ek]; exact hpar⟩))
    · intro px
      obtain ⟨e, ho, hx⟩ := h.par_adj px
      have hno := noPar x px
      have hxn := w.on ⟨ho.1, hx⟩
      obtain ⟨e', fe⟩ := first_ex (E := raw H) (used := used) (w := x) p2 ⟨e, (p1 e).mpr ho, fresh x e ho hx hno, hx⟩
      exact key_iff.mpr ⟨e', (f2 x e').mpr ⟨(nreached x hxn.1 hxn.2).mpr hno, fe⟩⟩
  have fr : ∀ x ∈ fs.map (·.1), 0 ≤ x ∧ x < n := fun x hx => by
    obtain ⟨e, ho, hx⟩ := h.par_adj ((fk x).mp hx)
    exact w.on ⟨ho.1, hx⟩
  have fl := nodup_len 100000 _ (f1.imp fun h => by omega) fun x hx => by have := fr x hx; omega
  have ml := nodup_len 100000 _ (key_nodup i.as) fun x hx => by have := i.ir x hx; omega
  have kl : links.length ≤ 100000 := by
    have := i.ol
    rw [this] at ml
    simp at ml
    omega
  rw [List.length_map] at fl
  refine yl_bind (b2_yl n1 i.lr fr (by omega) (by omega)) fun ⟨r', o', l'⟩ ⟨j1, j2, j4, j3⟩ => yl_bnd fun _ e => yl_some ?_
  subst e
  simp only at j1 j2 j3 j4
  have rowof : ∀ x, Par R u x → R x = some (q ++ [x]) := fun x ⟨q', e1, e2⟩ => by
    rw [hq] at e1
    cases e1
    exact e2
  refine ⟨⟨by rw [f3]; exact i.lu, j1, by have := i.a0; show 0 ≤ a + 1; omega, by show a + 1 ≤ (o'.length : Int); rw [j2, List.length_append]; omega, ?_, ?_, ?_, ?_, ?_, ?_, ?_⟩, rfl⟩
  · show o' = s :: l'.map (·.2.2)
    rw [j2, j4, i.ol, List.map_append, List.map_map, ← List.cons_append]
    rfl
  · show o'.Pairwise (KeyLt R)
    rw [j2, List.pairwise_append]
    refine ⟨i.as, ?_, fun v hv x hx => ?_⟩
    · refine List.Pairwise.imp_of_mem (fun {x y} hx hy hxy => ?_) f1
      exact ⟨_, _, rowof x ((fk x).mp hx), rowof y ((fk y).mp hy), rowLt_last hxy⟩
    · have hx := rowof x ((fk x).mp hx)
      rcases (i.me v).mp hv with z | ⟨k, hk, p', e1, e2⟩
      · subst z
        refine ⟨_, _, h.rs, hx, rowLt_len ?_⟩
        have : q ≠ [] := fun z => h.ne (z ▸ hq)
        have := List.length_pos_iff.mpr this
        simp
        omega
      · refine ⟨_, _, e2, hx, rowLt_snoc _ _ ?_⟩
        obtain ⟨q1, q2, e3, e4, e5⟩ := asc_at i.as hk.1 hk.2 ha
        rw [e1] at e3
        rw [← eu, hq] at e4
        cases e3
        cases e4
        exact e5
  · show Inr n o'
    rw [j2]
    intro x hx
    rcases List.mem_append.mp hx with z | z
    · exact i.ir x z
    · exact fr x z
  · show ∀ x, 0 ≤ x → x < n → (gd false r' x = true ↔ x ∈ o')
    intro x x0 x1
    rw [j3 x x0 x1, i.rc x x0 x1, j2, List.mem_append]
  · show ∀ x, x ∈ o' ↔ x = s ∨ ∃ k, (0 ≤ k ∧ k < a + 1) ∧ Par R (gd 0 o' k) x
    intro x
    have eg : ∀ k, 0 ≤ k → k < a + 1 → gd 0 o' k = gd 0 ord k := fun k k0 k1 => by
      unfold gd
      rw [j2, List.getD_eq_getElem?_getD, List.getD_eq_getElem?_getD, List.getElem?_append_left (by omega)]
    rw [j2, List.mem_append, i.me, fk]
    constructor
    · rintro ((z | ⟨k, hk, pk⟩) | z)
      · exact .inl z
      · exact .inr ⟨k, ⟨hk.1, by omega⟩, by rw [← j2, eg k hk.1 (by omega)]; exact pk⟩
      · exact .inr ⟨a, ⟨i.a0, by omega⟩, by rw [← j2, eg a i.a0 (by omega), ← eu]; exact z⟩
    · rintro (z | ⟨k, hk, pk⟩)
      · exact .inl (.inl z)
      · rw [← j2, eg k hk.1 hk.2] at pk
        by_cases c : k = a
        · subst c
          rw [← eu] at pk
          exact .inr pk
        · exact .inl (.inr ⟨k, ⟨hk.1, by omega⟩, pk⟩)
  · show ∀ e, 0 ≤ e → e < ((raw H).length : Int) → gd false u' e = true → ∀ x ∈ gd [] (raw H) e, x ∈ o'
    intro e e0 e1 hu x hx
    rw [j2, List.mem_append]
    by_cases c : x ∈ ord
    · exact .inl c
    · refine .inr ?_
      have hxn := w.on ⟨⟨e0, e1⟩, hx⟩
      have he : e ∈ p := by
        rcases (f4 e e0).mp hu with z | z
        · exact absurd (i.us e e0 e1 z x hx) c
        · exact z
      obtain ⟨e', fe⟩ := first_ex (E := raw H) (used := used) (w := x) p2 ⟨e, he, fresh x e ((p1 e).mp he) hx c, hx⟩
      exact key_iff.mpr ⟨e', (f2 x e').mpr ⟨(nreached x hxn.1 hxn.2).mpr c, fe⟩⟩
  · show ∀ l ∈ l', LinkOf (raw H) R l
    rw [j4]
    intro l hl
    rcases List.mem_append.mp hl with z | z
    · exact i.lk l z
    · obtain ⟨⟨x, e⟩, hm, rfl⟩ := List.mem_map.mp z
      have px : Par R u x := (fk x).mp (key_iff.mpr ⟨e, hm⟩)
      obtain ⟨g1, g2, g3, g4, g5⟩ := (f2 x e).mp hm
      exact ⟨px, ⟨(p1 e).mp g2, g4⟩, fun e' ho hx => g5 e' ((p1 e').mpr ho) (fresh x e' ho hx (noPar x px)) hx⟩
end
theorem spread_yl {n s : Int} {H : Bool × List (Bool × List Int)} {R : Int → Option (List Int)} (w : WF n (raw H)) (h : Rows n (raw H) s R) : Yl (spread n H s) (SpreadOk (raw H) s R) := by
  have n1 := w.n1
  have n0 := w.n0
  have lr := raw_len H
  have s0 := h.sr
  unfold spread
  refine yl_bind (touching_yl w) fun hs hh => yl_bnd fun _ e => ?_
  subst e
  refine yl_bnd fun u0 eu => yl_grd (by omega) (yl_grd (by rw [rng_len]; omega) (yl_bnd fun r0 er => ?_))
  have r0l : (r0.length : Int) = n := by rw [er, List.length_map, rng_len]; omega
  refine yl_gd false s0.1 (by omega) (yl_bnd fun r1 er1 => yl_bnd fun ord eo => yl_bnd fun lks el => yl_bnd fun a ea => ?_)
  have start : Spr n s (raw H) R u0 r1 ord lks a := by
    subst ea eo el
    refine ⟨by rw [eu, List.length_map, lr], by rw [er1, setAt_len]; exact r0l, by omega, by simp, rfl, by simp, fun x hx => ?_, fun v v0 v1 => ?_, fun v => ?_, fun e e0 e1 hu => ?_, fun l z => (nomatch z)⟩
    · rw [List.mem_singleton.mp hx]; exact s0
    · rw [er1, gd_set s0.1 (by omega) v0]
      have e : gd false r0 v = false := by rw [er]; exact (gd_map (e := 0) v0 (by rw [rng_len]; omega)).trans rfl
      rw [List.mem_singleton, e]
      by_cases c : s = v
      · rw [if_pos c]; exact ⟨fun _ => c.symm, fun _ => rfl⟩
      · rw [if_neg c]; exact ⟨fun z => (nomatch z), fun z => absurd z.symm c⟩
    · rw [List.mem_singleton]
      exact ⟨.inl, fun z => z.elim id fun ⟨k, hk, _⟩ => by omega⟩
    · have e' : gd false u0 e = false := by rw [eu]; exact (gd_map (e := (false, [])) e0 (by omega)).trans rfl
      rw [e'] at hu; cases hu
  refine yl_bind (yl_whileC (fun (q : ((List Bool) × (List Bool) × (List Int) × (List (Int × Int × Int)) × Int)) => Spr n s (raw H) R q.1 q.2.1 q.2.2.1 q.2.2.2.1 q.2.2.2.2) (fun (q : ((List Bool) × (List Bool) × (List Int) × (List (Int × Int × Int)) × Int)) => Spr n s (raw H) R q.1 q.2.1 q.2.2.1 q.2.2.2.1 q.2.2.2.2 ∧ q.2.2.2.2 = (q.2.2.1.length : Int)) (fun r => False) (fun (q : ((List Bool) × (List Bool) × (List Int) × (List (Int × Int × Int)) × Int)) => (n - q.2.2.2.2).toNat) (fun ⟨u, r, m, k, b⟩ j => ?_) start (fuelN_big (by show (n - a).toNat < _; have := start.a0; omega))) fun c hc => ?_
  · simp only at j
    refine yl_some ?_
    show if decide (b < (m.length : Int)) = true then _ else _
    by_cases c : b < (m.length : Int)
    · rw [if_pos (decide_eq_true c)]
      refine yl_mono (spread_b1_yl w hh h j c) fun z hz => ?_
      cases z with
      | nx t =>
        obtain ⟨z1, z2⟩ := hz
        have z2 : t.2.2.2.2 = b + 1 := z2
        have ml := nodup_len n.toNat _ (key_nodup j.as) fun x hx => by have := j.ir x hx; omega
        exact ⟨z1, by show (n - t.2.2.2.2).toNat < (n - b).toNat; have := j.a0; omega⟩
      | bk t => exact hz.elim
      | rt r => exact hz
    · rw [if_neg (by simpa using c)]
      exact ⟨j, by have := j.a1; simp only at this ⊢; omega⟩
  · have fin : ∀ u r m k b, Spr n s (raw H) R u r m k b → b = (m.length : Int) → SpreadOk (raw H) s R k := fun u r m k b j jb => by
      have all : ∀ (N : Nat) v q, q.length ≤ N → R v = some q → v ∈ m := fun N => by
        induction N with
        | zero =>
          intro v q hN hv
          have : q = [] := List.eq_nil_of_length_eq_zero (by omega)
          subst this
          exact absurd hv h.ne
        | succ N ih =>
          intro v q hN hv
          by_cases c : v = s
          · rw [j.ol, c]; exact .head _
          · obtain ⟨y, p, hy, ep, hp⟩ := h.par_ex hv c
            have hm := ih y p (by rw [ep] at hN; simp at hN; omega) hy
            obtain ⟨i, i0, i1, ei⟩ := mem_gd (d := 0) hm
            exact (j.me v).mpr (.inr ⟨i, ⟨i0, by omega⟩, by rw [ei]; exact hp⟩)
      refine ⟨by rw [← j.ol]; exact j.as, fun v => ?_, j.lk⟩
      rw [← j.ol]
      constructor
      · intro hv
        rcases (j.me v).mp hv with z | ⟨i, _, q, _, e⟩
        · exact ⟨_, z ▸ h.rs⟩
        · exact ⟨_, e⟩
      · rintro ⟨r, hr⟩
        exact all _ v r (Nat.le_refl _) hr
    cases c with
    | nx t => exact yl_some (fin _ _ _ _ _ hc.1 hc.2)
    | bk t => exact yl_some (fin _ _ _ _ _ hc.1 hc.2)
    | rt r => exact hc.elim
end K02

namespace K02
open PySem L2 PL
abbrev Tab := List (Option (List Int))
abbrev gl (t : Tab) (v : Int) : Option (List Int) := gd none t v
/-- at the head of a turn -/
structure LR (n : Int) (E : List (List Int)) (s : Int) (least : Tab) (t : Nat) : Prop where
  ll : (least.length : Int) = n
  sr : 0 ≤ s ∧ s < n
  rs : gl least s = some [s]
  ri : ∀ v r, 0 ≤ v → v < n → gl least v = some r → (v = s ∧ r = [s]) ∨ ∃ u q, (0 ≤ u ∧ u < n) ∧ gl least u = some q ∧ Adj E u v ∧ r = q ++ [v]
  cl : ∀ u q w, 0 ≤ u → u < n → gl least u = some q → q.length ≤ t → Adj E u w → ∃ r, gl least w = some r ∧ rowLt (q ++ [w]) r = false
  le : ∀ v r, 0 ≤ v → v < n → gl least v = some r → r.length ≤ t + 1
  ex : ∃ v r, (0 ≤ v ∧ v < n) ∧ gl least v = some r ∧ r.length = t + 1
/-- in a turn; pre: the edges that are done -/
structure Turn (n : Int) (E : List (List Int)) (t : Nat) (least0 least : Tab) (grown : Int) (pre : List (List Int)) : Prop where
  ll : (least.length : Int) = n
  same : ∀ v r, 0 ≤ v → v < n → gl least0 v = some r → gl least v = some r
  new : ∀ v r, 0 ≤ v → v < n → gl least v = some r → gl least0 v = some r ∨ (gl least0 v = none ∧ ∃ u q, (0 ≤ u ∧ u < n) ∧ gl least0 u = some q ∧ q.length = t + 1 ∧ Adj E u v ∧ r = q ++ [v])
  done : ∀ e ∈ pre, ∀ u ∈ e, ∀ q, gl least0 u = some q → q.length = t + 1 → ∀ w ∈ e, ∃ r, gl least w = some r ∧ rowLt (q ++ [w]) r = false
  pin : ∀ e ∈ pre, Inr n e
  g0 : 0 ≤ grown
  gr : grown = 0 → least = least0
  g1 : 0 < grown → ∃ v r, (0 ≤ v ∧ v < n) ∧ gl least v = some r ∧ r.length = t + 2
theorem adj_of {E : List (List Int)} {e : List Int} (he : e ∈ E) {u w : Int} (hu : u ∈ e) (hw : w ∈ e) : Adj E u w := by
  obtain ⟨i, i0, i1, ei⟩ := mem_gd (d := []) he
  exact ⟨i, ⟨⟨i0, i1⟩, by rw [ei]; exact hu⟩, by rw [ei]; exact hw⟩
theorem adj_edge {E : List (List Int)} {u w : Int} (h : Adj E u w) : ∃ e ∈ E, u ∈ e ∧ w ∈ e := by
  obtain ⟨i, ho, hw⟩ := h
  exact ⟨_, gd_mem ho.1.1 ho.1.2, ho.2, hw⟩
theorem minBy_ok {lt : List Int → List Int → Bool} (h : STO lt) : ∀ {xs : List (List Int)}, xs ≠ [] → ∃ m, minBy lt xs = some m ∧ m ∈ xs ∧ ∀ y ∈ xs, lt y m = false
  | [], h => absurd rfl h
  | x :: xs, _ => by
    suffices ∀ (xs : List (List Int)) (x : List Int), (xs.foldl (fun a y => if lt y a = true then y else a) x ∈ x :: xs) ∧ ∀ y ∈ x :: xs, lt y (xs.foldl (fun a y => if lt y a = true then y else a) x) = false from ⟨_, rfl, (this xs x).1, (this xs x).2⟩
    intro xs
    induction xs with
    | nil => exact fun x => ⟨.head _, fun y hy => by rw [List.mem_singleton.mp hy]; exact h.irr _⟩
    | cons z zs ih =>
      intro x
      rw [List.foldl_cons]
      obtain ⟨a, b⟩ := ih (if lt z x = true then z else x)
      refine ⟨?_, fun y hy => ?_⟩
      · rcases List.mem_cons.mp a with q | q
        · rw [q]
          split
          · exact .tail _ (.head _)
          · exact .head _
        · exact .tail _ (.tail _ q)
      · have hb := b _ (.head _)
        rcases List.mem_cons.mp hy with q | q
        · subst q
          by_cases c : lt z y = true
          · rw [if_pos c] at hb ⊢
            cases e : lt y (zs.foldl (fun a y => if lt y a = true then y else a) z) with
            | false => rfl
            | true => rw [h.tr _ _ _ c e] at hb; cases hb
          · rw [if_neg c] at hb ⊢
            exact hb
        · rcases List.mem_cons.mp q with q | q
          · subst q
            by_cases c : lt y x = true
            · rw [if_pos c] at hb ⊢
              exact hb
            · rw [if_neg c] at hb ⊢
              cases e : lt y (zs.foldl (fun a y => if lt y a = true then y else a) x) with
              | false => rfl
              | true =>
                by_cases q : y = x
                · subst q; rw [hb] at e; cases e
                · rcases h.tot _ _ q with w | w
                  · exact absurd w c
                  · rw [h.tr _ _ _ w e] at hb; cases hb
          · exact b y (.tail _ q)
theorem rowLt_same {a b : List Int} (h : a.length = b.length) : rowLt a b = ordL ltI a b := by
  unfold rowLt ordT2
  rw [if_pos (by simp only; omega)]
theorem ordB_ff {α : Type} {lt : α → α → Bool} {x y : α} : ordB lt false false x y = lt x y := by
  unfold ordB
  cases lt x y <;> rfl
section
variable {n s : Int} {E : List (List Int)} {t : Nat} {least0 least : Tab} {grown : Int} {pre : List (List Int)}
theorem Turn.len (L : LR n E s least0 t) (T : Turn n E t least0 least grown pre) {v : Int} {r : List Int} (v0 : 0 ≤ v) (v1 : v < n) (h : gl least v = some r) : (r.length ≤ t + 1 ∧ gl least0 v = some r) ∨ (r.length = t + 2 ∧ gl least0 v = none) := by
  rcases T.new v r v0 v1 h with z | ⟨z, u, q, _, _, h3, _, h4⟩
  · exact .inl ⟨L.le v r v0 v1 z, z⟩
  · exact .inr ⟨by rw [h4]; simp; omega, z⟩
/-- a node of an edge takes the least row of the edge, with itself behind it -/
theorem b3_yl (L : LR n E s least0 t) (hn : n ≤ 100000) (T : Turn n E t least0 least grown pre) (ht : (t : Int) < n) {edge : List Int} (he : edge ∈ E) (hi : Inr n edge) {near : List (List Int)} {m : List Int} (hm : minBy (ordL (fun a b : Int => decide (a < b))) near = some m) {u : Int} (hu : u ∈ edge) (hum : gl least0 u = some m) (hml : m.length = t + 1) {x : Int} (hx : x ∈ edge) :
    Yl (law_rows_b3 (t : Int) near least grown x) fun z => Turn n E t least0 z.1 z.2 pre ∧ (∀ w r, 0 ≤ w → w < n → gl least w = some r → ∃ r', gl z.1 w = some r' ∧ rowLt r r' = false) ∧ ∃ r, gl z.1 x = some r ∧ rowLt (m ++ [x]) r = false := by
  have x0 := hi x hx
  have ll := T.ll
  unfold law_rows_b3
  rw [hm, Option.bind_some]
  refine yl_grd (by rw [sz_eq, hml]; simp; omega) (yl_bnd fun row er => yl_gd none x0.1 (by omega) ?_)
  have er : row = m ++ [x] := er
  have rl : row.length = t + 2 := by rw [er]; simp; omega
  have keep : ∀ w r, 0 ≤ w → w < n → gl least w = some r → ∃ r', gl least w = some r' ∧ rowLt r r' = false := fun w r _ _ h => ⟨r, h, sto_row.irr _⟩
  -- the row is taken
  have upd : (gl least x = none ∨ ∃ z, gl least x = some z ∧ z.length = t + 2 ∧ rowLt row z = true) → Yl ((atI least x).bind fun old => bnd (setAt least x (some row)) fun least_1 => bnd ((grown + (1 : Int))) fun grown_1 => some (least_1, grown_1)) fun z => Turn n E t least0 z.1 z.2 pre ∧ (∀ w r, 0 ≤ w → w < n → gl least w = some r → ∃ r', gl z.1 w = some r' ∧ rowLt r r' = false) ∧ ∃ r, gl z.1 x = some r ∧ rowLt (m ++ [x]) r = false := fun hc => by
    refine yl_gd none x0.1 (by omega) (yl_bnd fun l1 e1 => yl_bnd fun g1 e2 => yl_some ?_)
    have g : ∀ w, 0 ≤ w → gl l1 w = if x = w then some row else gl least w := fun w w0 => by rw [e1]; exact gd_set x0.1 (by omega) w0
    have n0 : gl least0 x = none := by
      cases e : gl least0 x with
      | none => rfl
      | some r =>
        have h1 := T.same x r x0.1 x0.2 e
        have h2 := L.le x r x0.1 x0.2 e
        rcases hc with z | ⟨z, z1, z2, _⟩
        · rw [h1] at z; cases z
        · rw [h1] at z1; cases z1; omega
    have mono : ∀ w r, 0 ≤ w → w < n → gl least w = some r → ∃ r', gl l1 w = some r' ∧ rowLt r r' = false := fun w r w0 w1 h => by
      rw [g w w0]
      by_cases c : x = w
      · rw [if_pos c]
        subst c
        rcases hc with z | ⟨z, z1, z2, z3⟩
        · rw [h] at z; cases z
        · rw [h] at z1; cases z1
          exact ⟨_, rfl, sto_row.asym z3⟩
      · rw [if_neg c]
        exact ⟨_, h, sto_row.irr _⟩
    refine ⟨⟨by rw [e1, setAt_len]; exact ll, fun v r v0 v1 h => ?_, fun v r v0 v1 h => ?_, fun e hep y hy q hq hql w hw => ?_, T.pin, by have := T.g0; simp only; omega, fun z => by have := T.g0; simp only at z; omega, fun _ => ⟨x, row, x0, by rw [g x x0.1, if_pos rfl], rl⟩⟩, mono, ⟨row, by rw [g x x0.1, if_pos rfl], by rw [er]; exact sto_row.irr _⟩⟩
    · show gl l1 v = some r
      rw [g v v0]
      by_cases c : x = v
      · subst c; rw [n0] at h; cases h
      · rw [if_neg c]; exact T.same v r v0 v1 h
    · have h : gl l1 v = some r := h
      rw [g v v0] at h
      by_cases c : x = v
      · subst c
        rw [if_pos rfl] at h
        cases h
        exact .inr ⟨n0, u, m, hi u hu, hum, hml, adj_of he hu hx, er⟩
      · rw [if_neg c] at h
        exact T.new v r v0 v1 h
    · obtain ⟨r, h1, h2⟩ := T.done e hep y hy q hq hql w hw
      have wr := T.pin e hep w hw
      obtain ⟨r', h3, h4⟩ := mono w r wr.1 wr.2 h1
      refine ⟨r', h3, ?_⟩
      cases c : rowLt (q ++ [w]) r' with
      | false => rfl
      | true =>
        by_cases c2 : r = r'
        · subst c2; rw [h2] at c; cases c
        · rcases sto_row.tot _ _ c2 with z | z
          · rw [h4] at z; cases z
          · rw [sto_row.tr _ _ _ c z] at h2; cases h2
  cases hz : gl least x with
  | none =>
    refine yl_bind (P := fun b => b = true) (yl_ite (fun _ => yl_some rfl) fun c => ?_) fun b hb => ?_
    · have hz : gd none least x = none := hz
      rw [hz] at c; cases c
    · subst hb
      exact upd (.inl hz)
  | some z =>
    have hz' : gd none least x = some z := hz
    have lz := T.len L x0.1 x0.2 hz
    refine yl_bind (P := fun b => b = (decide (z.length = t + 2) && rowLt row z)) (yl_ite (fun c => ?_) fun c => yl_gd none x0.1 (by omega) ?_) fun b hb => yl_ite (fun c => upd (.inr ⟨z, hz, ?_⟩)) fun c => yl_some ⟨T, keep, z, hz, ?_⟩
    · rw [hz'] at c; cases c
    · rw [hz', Option.bind_some]
      refine yl_bind (P := fun b => b = (decide (z.length = t + 2) && rowLt row z)) (yl_ite (fun c => yl_gd none x0.1 (by omega) ?_) fun c => yl_some ?_) fun b hb => yl_some hb
      · rw [hz', Option.bind_some, ordB_ff]
        have c : z.length = t + 2 := by simp at c; omega
        exact yl_some (by rw [rowLt_same (by omega)]; simp [c])
      · have c : ¬ z.length = t + 2 := by simp at c; omega
        simp [c]
    · rw [hb] at c
      simp at c
      exact c
    · rw [hb] at c
      rw [← er]
      rcases lz with q | q
      · exact sto_row.asym (rowLt_len (by omega))
      · simpa [q.1] using c
/-- one edge -/
theorem b2r_yl (L : LR n E s least0 t) (hn : n ≤ 100000) (T : Turn n E t least0 least grown pre) (ht : (t : Int) < n) {edge : List Int} (he : edge ∈ E) (hi : Inr n edge) : Yl (law_rows_b2 (t : Int) least grown edge) fun z => Turn n E t least0 z.1 z.2 (pre ++ [edge]) := by
  have ll := T.ll
  unfold law_rows_b2
  rw [lcM (f := fun i => gl least i) fun i hii => by
    have := hi i hii
    rw [atI_gd none this.1 (by omega)]
    rfl]
  rw [Option.bind_some]
  rw [yl_lcO (fun x : Option (List Int) => x.bind fun z => if z.length = t + 1 then some z else none) fun x hx => by
    cases x with
    | none => rfl
    | some z =>
      show (Option.bind (some (decide ((z.length : Int) = (t : Int) + 1))) _) = _
      rw [Option.bind_some]
      by_cases c : z.length = t + 1
      · rw [if_pos (by simp; omega)]
        simp [c]
      · rw [if_neg (by simp; omega)]
        simp [c]]
  rw [Option.bind_some]
  refine yl_bnd fun near en => ?_
  have mn : ∀ y, y ∈ near ↔ ∃ u ∈ edge, gl least u = some y ∧ y.length = t + 1 := fun y => by
    rw [en, List.mem_filterMap]
    constructor
    · rintro ⟨o, ho, e⟩
      obtain ⟨u, hu, rfl⟩ := List.mem_map.mp ho
      cases hg : gl least u with
      | none => rw [hg] at e; cases e
      | some z =>
        rw [hg, Option.bind_some] at e
        split at e
        · cases e; exact ⟨u, hu, hg, by assumption⟩
        · cases e
    · rintro ⟨u, hu, hg, hl⟩
      exact ⟨gl least u, List.mem_map_of_mem hu, by rw [hg, Option.bind_some, if_pos hl]⟩
  have first : ∀ u ∈ edge, ∀ y, gl least0 u = some y → y.length = t + 1 → y ∈ near := fun u hu y hy hl => (mn y).mpr ⟨u, hu, T.same u y (hi u hu).1 (hi u hu).2 hy, hl⟩
  refine yl_ite (fun c => ?_) fun c => yl_some ?_
  · have ne : near ≠ [] := fun z => by rw [z] at c; simp at c
    obtain ⟨m, em, hm, mle⟩ := minBy_ok (sto_L sto_int) ne
    obtain ⟨u, hu, hg, hml⟩ := (mn m).mp hm
    have hu0 := hi u hu
    have hum : gl least0 u = some m := by
      rcases T.len L hu0.1 hu0.2 hg with z | z
      · exact z.2
      · omega
    refine yl_bind (yl_foldP (fun (p : List Int) (z : Tab × Int) => Turn n E t least0 z.1 z.2 pre ∧ ∀ w ∈ p, ∃ r, gl z.1 w = some r ∧ rowLt (m ++ [w]) r = false) ⟨T, fun _ z => nomatch z⟩ fun p x q ep ⟨l1, g1⟩ ⟨i1, i2⟩ => ?_) fun ⟨l1, g1⟩ ⟨i1, i2⟩ => yl_some ?_
    · have hx : x ∈ edge := by rw [ep]; simp
      refine yl_mono (b3_yl L hn i1 ht he hi em hu hum hml hx) fun z ⟨z1, z2, z3⟩ => ⟨z1, fun w hw => ?_⟩
      rcases List.mem_append.mp hw with y | y
      · obtain ⟨r, h1, h2⟩ := i2 w y
        have wr := hi w (by rw [ep]; exact List.mem_append_left _ y)
        obtain ⟨r', h3, h4⟩ := z2 w r wr.1 wr.2 h1
        refine ⟨r', h3, ?_⟩
        cases c : rowLt (m ++ [w]) r' with
        | false => rfl
        | true =>
          by_cases c2 : r = r'
          · subst c2; rw [h2] at c; cases c
          · rcases sto_row.tot _ _ c2 with z | z
            · rw [h4] at z; cases z
            · rw [sto_row.tr _ _ _ c z] at h2; cases h2
      · rw [List.mem_singleton.mp y]; exact z3
    · simp only at i1 i2
      refine ⟨i1.ll, i1.same, i1.new, fun e hep y hy q hq hql w hw => ?_, fun e hep => ?_, i1.g0, i1.gr, i1.g1⟩
      · rcases List.mem_append.mp hep with z | z
        · exact i1.done e z y hy q hq hql w hw
        · have z := List.mem_singleton.mp z
          subst z
          obtain ⟨r, h1, h2⟩ := i2 w hw
          refine ⟨r, h1, ?_⟩
          have hqm := mle q (first y hy q hq hql)
          by_cases c2 : q = m
          · rw [c2]; exact h2
          · have hlt : rowLt m q = true := by
              rcases sto_row.tot _ _ c2 with z | z
              · rw [rowLt_same (by omega)] at z
                rw [hqm] at z; cases z
              · exact z
            cases c : rowLt (q ++ [w]) r with
            | false => rfl
            | true => rw [sto_row.tr _ _ _ (rowLt_snoc w w hlt) c] at h2; cases h2
      · rcases List.mem_append.mp hep with z | z
        · exact i1.pin e z
        · rw [List.mem_singleton.mp z]; exact hi
  · have ne : near = [] := by
      cases hnr : near with
      | nil => rfl
      | cons a b => rw [hnr] at c; simp at c
    refine ⟨T.ll, T.same, T.new, fun e hep y hy q hq hql w hw => ?_, fun e hep => ?_, T.g0, T.gr, T.g1⟩
    · rcases List.mem_append.mp hep with z | z
      · exact T.done e z y hy q hq hql w hw
      · have z := List.mem_singleton.mp z
        subst z
        have := first y hy q hq hql
        rw [ne] at this
        cases this
    · rcases List.mem_append.mp hep with z | z
      · exact T.pin e z
      · rw [List.mem_singleton.mp z]; exact hi
/-- the table as a function of the node -/
def Rt (n : Int) (least : Tab) (v : Int) : Option (List Int) := if 0 ≤ v ∧ v < n then gl least v else none
theorem rt_some {v : Int} {r : List Int} (h : Rt n least v = some r) : (0 ≤ v ∧ v < n) ∧ gl least v = some r := by
  unfold Rt at h
  split at h
  · exact ⟨by assumption, h⟩
  · cases h
theorem rt_of {v : Int} {r : List Int} (v0 : 0 ≤ v ∧ v < n) (h : gl least v = some r) : Rt n least v = some r := by
  unfold Rt
  rw [if_pos v0]
  exact h
theorem b1r_yl (w : WF n E) (L : LR n E s least0 t) (ht : (t : Int) < n) : Yl (law_rows_b1 E least0 (t : Int)) fun c => match c with
    | .nx z => LR n E s z (t + 1)
    | .bk z => (z.length : Int) = n ∧ Rows n E s (Rt n z)
    | .rt r => False := by
  unfold law_rows_b1
  refine yl_bnd fun g0 eg => yl_bind (yl_foldP (fun (pre : List (List Int)) (z : Tab × Int) => Turn n E t least0 z.1 z.2 pre) ?_ fun pre edge suf ep ⟨l1, g1⟩ T => ?_) fun ⟨l1, g1⟩ T => yl_ite (fun c => yl_some ?_) fun c => yl_some ?_
  · subst eg
    exact ⟨L.ll, fun v r _ _ h => h, fun v r _ _ h => .inl h, (fun _ z => nomatch z), (fun _ z => nomatch z), Int.le_refl _, fun _ => rfl, fun z => absurd z (Int.lt_irrefl 0)⟩
  · have he : edge ∈ E := by rw [ep]; simp
    exact b2r_yl L w.n1 T ht he (w.inr edge he)
  · have c : g1 = 0 := by simpa using c
    have e := T.gr c
    simp only at e
    subst e
    refine ⟨L.ll, ⟨rt_of L.sr L.rs, L.sr, fun v r h => ?_, fun u q x h ha => ?_⟩⟩
    · obtain ⟨v0, h⟩ := rt_some h
      rcases L.ri v r v0.1 v0.2 h with z | ⟨u, q, u0, h1, h2, h3⟩
      · exact .inl z.1
      · exact .inr ⟨u, q, rt_of u0 h1, h2, h3⟩
    · obtain ⟨u0, h⟩ := rt_some h
      have xr : 0 ≤ x ∧ x < n := by obtain ⟨e, ho, hx⟩ := ha; exact w.on ⟨ho.1, hx⟩
      have hl := L.le u q u0.1 u0.2 h
      by_cases c : q.length ≤ t
      · obtain ⟨r, h1, h2⟩ := L.cl u q x u0.1 u0.2 h c ha
        exact ⟨r, rt_of xr h1, h2⟩
      · obtain ⟨e, he, hu, hx⟩ := adj_edge ha
        obtain ⟨r, h1, h2⟩ := T.done e he u hu q h (by omega) x hx
        exact ⟨r, rt_of xr h1, h2⟩
  · have c : g1 ≠ 0 := by simpa using c
    have g0 := T.g0
    simp only at g0
    obtain ⟨v, r, v0, h1, h2⟩ := T.g1 (by simp only; omega)
    refine ⟨T.ll, L.sr, T.same s _ L.sr.1 L.sr.2 L.rs, fun v r v0 v1 h => ?_, fun u q x u0 u1 h hq ha => ?_, fun v r v0 v1 h => ?_, ⟨v, r, v0, h1, h2⟩⟩
    · rcases T.new v r v0 v1 h with z | ⟨_, u, q, u0, h1, _, h3, h4⟩
      · rcases L.ri v r v0 v1 z with y | ⟨u, q, u0, h1, h2, h3⟩
        · exact .inl y
        · exact .inr ⟨u, q, u0, T.same u q u0.1 u0.2 h1, h2, h3⟩
      · exact .inr ⟨u, q, u0, T.same u q u0.1 u0.2 h1, h3, h4⟩
    · have h0 : gl least0 u = some q := by
        rcases T.len L u0 u1 h with z | z
        · exact z.2
        · omega
      by_cases c : q.length ≤ t
      · have xr : 0 ≤ x ∧ x < n := by obtain ⟨e, ho, hx⟩ := ha; exact w.on ⟨ho.1, hx⟩
        obtain ⟨r, h1, h2⟩ := L.cl u q x u0 u1 h0 c ha
        exact ⟨r, T.same x r xr.1 xr.2 h1, h2⟩
      · obtain ⟨e, he, hu, hx⟩ := adj_edge ha
        exact T.done e he u hu q h0 (by omega) x hx
    · rcases T.len L v0 v1 h with z | z <;> omega
theorem LR.nodes (L : LR n E s least t) : ∀ (m : Nat) (v : Int) (r : List Int), 0 ≤ v → v < n → gl least v = some r → r.length = m → ∃ xs : List Int, xs.length = m ∧ xs.Nodup ∧ Inr n xs ∧ ∀ x ∈ xs, ∃ q, gl least x = some q ∧ q.length ≤ m
  | 0, v, r, v0, v1, h, hl => ⟨[], rfl, List.nodup_nil, (fun _ z => nomatch z), fun _ z => nomatch z⟩
  | m + 1, v, r, v0, v1, h, hl => by
    rcases L.ri v r v0 v1 h with z | ⟨u, q, u0, h1, _, h3⟩
    · have : m = 0 := by rw [z.2] at hl; simpa using hl.symm
      subst this
      exact ⟨[v], rfl, by simp, fun x hx => by rw [List.mem_singleton.mp hx]; exact ⟨v0, v1⟩, fun x hx => by rw [List.mem_singleton.mp hx]; exact ⟨r, h, by omega⟩⟩
    · obtain ⟨xs, a, b, c, d⟩ := LR.nodes L m u q u0.1 u0.2 h1 (by rw [h3] at hl; simpa using hl)
      refine ⟨v :: xs, by simp [a], List.nodup_cons.mpr ⟨fun hv => ?_, b⟩, fun x hx => ?_, fun x hx => ?_⟩
      · obtain ⟨q', e1, e2⟩ := d v hv
        rw [h] at e1
        cases e1
        omega
      · rcases List.mem_cons.mp hx with z | z
        · rw [z]; exact ⟨v0, v1⟩
        · exact c x z
      · rcases List.mem_cons.mp hx with z | z
        · rw [z]; exact ⟨r, h, by omega⟩
        · obtain ⟨q', e1, e2⟩ := d x z
          exact ⟨q', e1, by omega⟩
theorem law_rows_yl (w : WF n E) (s0 : 0 ≤ s ∧ s < n) : Yl (law_rows n E s) fun least => (least.length : Int) = n ∧ Rows n E s (Rt n least) := by
  have n1 := w.n1
  unfold law_rows
  refine yl_grd (by omega) (yl_grd (by rw [rng_len]; omega) (yl_bnd fun t0 e0 => ?_))
  have t0l : (t0.length : Int) = n := by rw [e0, List.length_map, rng_len]; omega
  refine yl_gd none s0.1 (by omega) (yl_bnd fun t1 e1 => yl_grd (by omega) ?_)
  have g : ∀ v, 0 ≤ v → v < n → gl t1 v = if s = v then some [s] else none := fun v v0 v1 => by
    have e : gd none t0 v = none := by rw [e0]; exact (gd_map (e := 0) v0 (by rw [rng_len]; omega)).trans rfl
    have e1 : t1 = setAt t0 s (some [s]) := e1
    unfold gl
    rw [e1, gd_set s0.1 (by omega) v0, e]
  have one : ∀ v r, 0 ≤ v → v < n → gl t1 v = some r → v = s ∧ r = [s] := fun v r v0 v1 h => by
    rw [g v v0 v1] at h
    split at h
    · rename_i c
      cases h
      exact ⟨c.symm, rfl⟩
    · cases h
  have L0 : LR n E s t1 0 := ⟨by rw [e1, setAt_len]; exact t0l, s0, by rw [g s s0.1 s0.2, if_pos rfl], fun v r v0 v1 h => .inl (one v r v0 v1 h), fun u q x u0 u1 h hq ha => by
    rw [(one u q u0 u1 h).2] at hq
    simp at hq, fun v r v0 v1 h => by rw [(one v r v0 v1 h).2]; simp, ⟨s, [s], s0, by rw [g s s0.1 s0.2, if_pos rfl], rfl⟩⟩
  refine yl_bind (yl_forC (fun k z => LR n E s z k) (fun z => (z.length : Int) = n ∧ Rows n E s (Rt n z)) (fun r => False) L0 (fun k hk z L => ?_) fun z L => ?_) fun c hc => ?_
  · rw [rng_len] at hk
    rw [rng_get]
    have ek : 0 + (k : Int) = k := by omega
    rw [ek]
    refine yl_mono (b1r_yl w L (by omega)) fun c hc => ?_
    cases c with
    | nx z => exact hc
    | bk z => exact hc
    | rt r => exact hc
  · exfalso
    obtain ⟨v, r, v0, h1, h2⟩ := L.ex
    obtain ⟨xs, a, b, c, _⟩ := L.nodes _ v r v0.1 v0.2 h1 h2
    have := nodup_len n.toNat xs b fun x hx => by have := c x hx; omega
    rw [rng_len] at a
    omega
  · cases c with
    | nx z => exact yl_some hc
    | bk z => exact yl_some hc
    | rt r => exact hc.elim
end
end K02

namespace K02
open PySem L2 PL
theorem sort_asc {α : Type} {lt : α → α → Bool} (h : STO lt) {xs : List α} (nd : xs.Nodup) : (sortBy lt xs).Pairwise fun a b => lt a b = true := by
  have s1 : (sortBy lt xs).Pairwise fun a b => (!lt b a) = true := by
    refine List.pairwise_mergeSort (le := fun a b => !lt b a) (fun a b c h1 h2 => ?_) (fun a b => ?_) xs
    · simp at *
      cases e : lt c a with
      | false => rfl
      | true =>
        by_cases q : b = c
        · subst q; rw [h1] at e; cases e
        · rcases h.tot _ _ q with z | z
          · have := h.tr _ _ _ z e; rw [h1] at this; cases this
          · rw [h2] at z; cases z
    · simp
      cases e : lt b a with
      | false => exact .inl rfl
      | true => exact .inr (h.asym e)
  have s2 : (sortBy lt xs).Nodup := sortBy_perm.nodup_iff.mpr nd
  refine (s1.and s2).imp fun {a b} ⟨z1, z2⟩ => ?_
  rcases h.tot _ _ z2 with q | q
  · exact q
  · rw [q] at z1; cases z1
theorem tab_map {α : Type} {d : α} (xs : List α) : xs = (rng 0 (xs.length : Int)).map fun i => gd d xs i := by
  refine List.ext_getElem (by rw [List.length_map, rng_len]; omega) fun i h1 h2 => ?_
  rw [List.getElem_map, rng_get, gd_eq (by omega) (by omega)]
  congr 1
  omega
/-- the last of a row, by its length -/
def nd (p : Int × List Int) : Int := gd 0 p.2 (p.1 - 1)
section
variable {n s : Int} {E : List (List Int)} {R : Int → Option (List Int)}
/-- a row of more than one node -/
theorem Rows.long (h : Rows n E s R) {v : Int} {r : List Int} (e : R v = some r) (hl : 1 < r.length) : ∃ u, Par R u v ∧ gd 0 r ((r.length : Int) - 2) = u ∧ gd 0 r ((r.length : Int) - 1) = v := by
  have hv : v ≠ s := fun z => by
    subst z
    rw [h.rs] at e
    cases e
    simp at hl
  obtain ⟨u, q, hu, er, hp⟩ := h.par_ex e hv
  obtain ⟨q', eq⟩ := h.last hu
  refine ⟨u, hp, ?_, ?_⟩
  · rw [er]
    have l1 : ((q ++ [v]).length : Int) = (q.length : Int) + 1 := by simp
    have l2 : (q.length : Int) = (q'.length : Int) + 1 := by rw [eq]; simp
    rw [gd_app (by omega) (by omega), if_neg (by omega), eq, gd_app (by simp <;> omega) (by simp <;> omega), if_pos (by simp <;> omega)]
  · rw [er]
    have l1 : ((q ++ [v]).length : Int) = (q.length : Int) + 1 := by simp
    rw [gd_app (by omega) (by omega), if_pos (by omega)]
theorem links_b1_yl (w : WF n E) (h : Rows n E s R) {links : List (Int × Int × Int)} (hl : links.length ≤ 200000) {p : Int × List Int} {v : Int} (hv : R v = some p.2) (hp : p.1 = (p.2.length : Int)) (h1 : 1 < p.2.length) :
    Yl (law_links_b1 E links p) fun z => ∃ l, z = links ++ [l] ∧ l.2.2 = nd p ∧ nd p = v ∧ LinkOf E R l := by
  obtain ⟨u, par, e1, e2⟩ := h.long hv h1
  have el := w.el
  unfold law_links_b1
  rw [hp]
  refine yl_gd 0 (by omega) (by omega) (yl_bnd fun one eo => yl_gd 0 (by omega) (by omega) (yl_bnd fun two et => yl_grd (by omega) (yl_grd (by rw [rng_len]; omega) ?_)))
  rw [e1] at eo
  rw [e2] at et
  subst eo et
  rw [yl_lcO (fun i => if one ∈ gd [] E i ∧ two ∈ gd [] E i then some i else none) fun i hi => by
    have hi := rng_mem.mp hi
    rw [atI_gd [] hi.1 (by omega)]
    simp only [Option.bind_some]
    by_cases c1 : one ∈ gd [] E i
    · by_cases c2 : two ∈ gd [] E i
      · rw [if_pos (by simpa using c1), if_pos ⟨c1, c2⟩]; simp [c2]
      · rw [if_pos (by simpa using c1), if_neg fun z => c2 z.2]; simp [c2]
    · rw [if_neg (by simpa using c1), if_neg fun z => c1 z.1]; rfl]
  rw [Option.bind_some]
  refine yl_bnd fun both eb => ?_
  have mb : ∀ e, e ∈ both ↔ On E one e ∧ two ∈ gd [] E e := fun e => by
    rw [eb, List.mem_filterMap]
    constructor
    · rintro ⟨i, hi, hc⟩
      have hi := rng_mem.mp hi
      split at hc
      · cases hc
        rename_i c
        exact ⟨⟨hi, c.1⟩, c.2⟩
      · cases hc
    · rintro ⟨ho, hw⟩
      exact ⟨e, rng_mem.mpr ho.1, by rw [if_pos ⟨ho.2, hw⟩]⟩
  have asc : both.Pairwise (· < ·) := by
    rw [eb, List.pairwise_filterMap]
    refine (rng_asc 0 (E.length : Int)).imp fun {a b} hab x hx y hy => ?_
    split at hx
    · split at hy
      · cases hx; cases hy; exact hab
      · cases hy
    · cases hx
  obtain ⟨e0, ho, hw⟩ := h.par_adj par
  have pos : 0 < (both.length : Int) := by have := List.length_pos_of_mem ((mb e0).mpr ⟨ho, hw⟩); omega
  refine yl_gd 0 (by omega) pos (yl_grd (by omega) (yl_bnd fun _ e => yl_some ⟨_, e, ?_, ?_, par, ?_, fun e' ho' hw' => ?_⟩))
  · show two = gd 0 p.2 (p.1 - 1)
    rw [hp, e2]
  · show gd 0 p.2 (p.1 - 1) = two
    rw [hp, e2]
  · exact (mb _).mp (gd_mem (by omega) pos)
  · obtain ⟨j, j0, j1, ej⟩ := mem_gd (d := 0) ((mb e').mpr ⟨ho', hw'⟩)
    rw [← ej]
    show gd 0 both 0 ≤ gd 0 both j
    by_cases c : j = 0
    · rw [c]; exact Int.le_refl _
    · rw [gd_eq (by omega) pos, gd_eq j0 j1]
      have := List.pairwise_iff_getElem.mp asc (Int.toNat 0) j.toNat (by omega) (by omega) (by omega)
      omega
theorem law_links_yl (w : WF n E) (s0 : 0 ≤ s ∧ s < n) : Yl (law_links n E s) fun links => ∃ R, Rows n E s R ∧ SpreadOk E s R links := by
  have n1 := w.n1
  unfold law_links
  refine yl_bind (law_rows_yl w s0) fun least ⟨ll, hR⟩ => yl_bnd fun lst el => yl_bnd fun l0 e0 => ?_
  subst el
  rw [yl_lcO (fun x : Option (List Int) => x.bind fun z => if 1 < z.length then some ((z.length : Int), z) else none) fun x hx => by
    cases x with
    | none => rfl
    | some z =>
      show (Option.bind (some (decide ((1 : Int) < (z.length : Int)))) _) = _
      rw [Option.bind_some]
      by_cases c : 1 < z.length
      · rw [if_pos (by simp; omega)]
        simp [c]
      · rw [if_neg (by simp; omega)]
        simp [c]]
  rw [Option.bind_some]
  generalize hl : (lst.filterMap fun x : Option (List Int) => x.bind fun z => if 1 < z.length then some ((z.length : Int), z) else none) = l
  have fm : l = (rng 0 n).filterMap fun v => (gl lst v).bind fun z => if 1 < z.length then some ((z.length : Int), z) else none := by
    rw [← hl]
    conv => lhs; rw [tab_map (d := none) lst]
    rw [List.filterMap_map, ll]
    rfl
  have ml : ∀ p, p ∈ l ↔ ∃ v, Rt n lst v = some p.2 ∧ p.1 = (p.2.length : Int) ∧ 1 < p.2.length := fun p => by
    rw [fm, List.mem_filterMap]
    constructor
    · rintro ⟨v, hv, e⟩
      obtain ⟨z, e1, e2⟩ := Option.bind_eq_some_iff.mp e
      split at e2
      · cases e2
        exact ⟨v, rt_of (rng_mem.mp hv) e1, rfl, by assumption⟩
      · cases e2
    · rintro ⟨v, hv, e1, e2⟩
      obtain ⟨v0, h1⟩ := rt_some hv
      refine ⟨v, rng_mem.mpr v0, ?_⟩
      rw [h1, Option.bind_some, if_pos e2, ← e1]
  have ndl : l.Nodup := by
    rw [fm]
    show List.Pairwise _ _
    rw [List.pairwise_filterMap]
    refine ((rng_asc 0 n).imp_of_mem (fun {a b} ha hb hab x hx y hy e => ?_))
    subst e
    obtain ⟨z1, h1, h2⟩ := Option.bind_eq_some_iff.mp hx
    obtain ⟨z2, h3, h4⟩ := Option.bind_eq_some_iff.mp hy
    split at h2
    · split at h4
      · cases h2
        injection h4 with h4
        injection h4 with _ h4
        subst h4
        have := hR.inj (rt_of (rng_mem.mp ha) h1) (rt_of (rng_mem.mp hb) h3)
        omega
      · cases h4
    · cases h2
  have sasc := sort_asc (sto_T2 sto_int (sto_L sto_int)) ndl
  generalize hL : sortBy (ordT2 (fun a b : Int => decide (a < b)) (ordL (fun a b : Int => decide (a < b)))) l = L at sasc
  have mL : ∀ p, p ∈ L ↔ p ∈ l := fun p => by rw [← hL]; exact sortBy_perm.mem_iff
  have nR : ∀ p ∈ L, Rt n lst (nd p) = some p.2 ∧ p.1 = (p.2.length : Int) ∧ 1 < p.2.length := fun p hp => by
    obtain ⟨v, h1, h2, h3⟩ := (ml p).mp ((mL p).mp hp)
    obtain ⟨u, _, _, e⟩ := hR.long h1 h3
    refine ⟨?_, h2, h3⟩
    unfold nd
    rw [h2, e]
    exact h1
  have asc : (L.map nd).Pairwise (KeyLt (Rt n lst)) := by
    rw [List.pairwise_map]
    refine sasc.imp_of_mem fun {a b} ha hb hab => ⟨_, _, (nR a ha).1, (nR b hb).1, ?_⟩
    unfold rowLt
    rw [← (nR a ha).2.1, ← (nR b hb).2.1]
    exact hab
  have len : L.length ≤ 100000 := by
    have := nodup_len 100000 _ (key_nodup asc) fun x hx => by
      obtain ⟨p, hp, rfl⟩ := List.mem_map.mp hx
      have := (rt_some (nR p hp).1).1
      omega
    rw [List.length_map] at this
    exact this
  refine yl_bind (yl_foldP (fun (pre : List (Int × List Int)) (z : List (Int × Int × Int)) => z.map (·.2.2) = pre.map nd ∧ ∀ l ∈ z, LinkOf E (Rt n lst) l) ⟨by rw [e0]; rfl, by rw [e0]; exact fun _ z => nomatch z⟩ fun pre p suf ep z ⟨i1, i2⟩ => ?_) fun z ⟨i1, i2⟩ => yl_some ⟨Rt n lst, hR, ?_, fun v => ?_, i2⟩
  · have hp : p ∈ L := by rw [ep]; simp
    obtain ⟨h1, h2, h3⟩ := nR p hp
    have zl : z.length ≤ 200000 := by
      have a := congrArg List.length i1
      have b := congrArg List.length ep
      simp at a b
      omega
    refine yl_mono (links_b1_yl w hR zl h1 h2 h3) fun z' ⟨lk, e1, e2, _, e4⟩ => ?_
    subst e1
    refine ⟨by rw [List.map_append, List.map_append, i1]; simp [e2], fun l hl => ?_⟩
    rcases List.mem_append.mp hl with y | y
    · exact i2 l y
    · rw [List.mem_singleton.mp y]; exact e4
  · rw [i1]
    refine List.pairwise_cons.mpr ⟨fun v hv => ?_, asc⟩
    obtain ⟨p, hp, rfl⟩ := List.mem_map.mp hv
    exact ⟨_, _, hR.rs, (nR p hp).1, rowLt_len (by simpa using (nR p hp).2.2)⟩
  · rw [i1]
    constructor
    · intro hv
      rcases List.mem_cons.mp hv with y | y
      · exact ⟨_, y ▸ hR.rs⟩
      · obtain ⟨p, hp, rfl⟩ := List.mem_map.mp y
        exact ⟨_, (nR p hp).1⟩
    · rintro ⟨r, hr⟩
      by_cases c : v = s
      · rw [c]; exact .head _
      · obtain ⟨u, q, hu, er, _⟩ := hR.par_ex hr c
        have q0 : q ≠ [] := fun z => hR.ne (z ▸ hu)
        have q1 := List.length_pos_iff.mpr q0
        have h1 : 1 < r.length := by rw [er]; simp; omega
        have hp : ((r.length : Int), r) ∈ L := (mL _).mpr ((ml _).mpr ⟨v, hr, rfl, h1⟩)
        refine .tail _ (List.mem_map.mpr ⟨_, hp, ?_⟩)
        obtain ⟨_, _, _, e⟩ := hR.long hr h1
        exact e
end
end K02

namespace K02
open PySem L2 PL
/-! the long path: nodes by their places on it -/
structure Path (n : Int) (pl : List Int) (E : List (List Int)) : Prop where
  n0 : 2 ≤ n
  n1 : n ≤ 100000
  al : (pl.length : Int) = n
  ir : Inr n pl
  inj : ∀ i j, 0 ≤ i → i < n → 0 ≤ j → j < n → gd 0 pl i = gd 0 pl j → i = j
  el : n - 1 ≤ (E.length : Int)
  ed : ∀ e, 0 ≤ e → e < (E.length : Int) → ∃ i, (0 ≤ i ∧ i < n - 1) ∧ (e < n - 1 → i = e) ∧ ∀ x, x ∈ gd [] E e ↔ x = gd 0 pl i ∨ x = gd 0 pl (i + 1)
/-- the places p, p + d, .., p + k d -/
def rw_ (pl : List Int) (p d : Int) (k : Nat) : List Int := (List.range (k + 1)).map fun (j : Nat) => gd 0 pl (p + (j : Int) * d)
theorem rw_len (pl : List Int) (p d : Int) (k : Nat) : (rw_ pl p d k).length = k + 1 := by unfold rw_; simp
theorem rw_succ (pl : List Int) (p d : Int) (k : Nat) : rw_ pl p d (k + 1) = rw_ pl p d k ++ [gd 0 pl (p + ((k + 1 : Nat) : Int) * d)] := by
  unfold rw_
  rw [List.range_succ, List.map_append]
  rfl
theorem rw_zero (pl : List Int) (p d : Int) : rw_ pl p d 0 = [gd 0 pl p] := by
  unfold rw_
  simp
theorem rw_head (pl : List Int) (p d : Int) (k : Nat) : ∃ r, rw_ pl p d (k + 1) = gd 0 pl p :: gd 0 pl (p + d) :: r := by
  unfold rw_
  rw [List.range_succ_eq_map, List.range_succ_eq_map]
  refine ⟨((List.range k).map Nat.succ).map (fun (j : Nat) => gd 0 pl (p + ((Nat.succ j : Nat) : Int) * d)), ?_⟩
  simp [List.map_map, Function.comp_def]
def At (n p d : Int) (k : Nat) : Prop := (d = 1 ∨ d = -1) ∧ 0 ≤ p + (k : Int) * d ∧ p + (k : Int) * d < n
open Classical in
noncomputable def Rp (n p : Int) (pl : List Int) (v : Int) : Option (List Int) := if h : ∃ x : Int × Nat, At n p x.1 x.2 ∧ gd 0 pl (p + (x.2 : Int) * x.1) = v then some (rw_ pl p h.choose.1 h.choose.2) else none
section
variable {n p : Int} {pl : List Int} {E : List (List Int)}
theorem Rp_at (P : Path n pl E) {d : Int} {k : Nat} (h : At n p d k) : Rp n p pl (gd 0 pl (p + (k : Int) * d)) = some (rw_ pl p d k) := by
  unfold Rp
  have ex : ∃ x : Int × Nat, At n p x.1 x.2 ∧ gd 0 pl (p + (x.2 : Int) * x.1) = gd 0 pl (p + (k : Int) * d) := ⟨(d, k), h, rfl⟩
  rw [dif_pos ex]
  obtain ⟨h1, h2⟩ := ex.choose_spec
  generalize ex.choose = x at h1 h2
  have e := P.inj _ _ h1.2.1 h1.2.2 h.2.1 h.2.2 h2
  obtain ⟨d', k'⟩ := x
  simp only at e h1 ⊢
  have : k' = k ∧ (k = 0 ∨ d' = d) := by
    rcases h1.1 with q | q <;> rcases h.1 with q' | q' <;> subst q <;> subst q' <;> omega
  obtain ⟨rfl, z | z⟩ := this
  · subst z; rw [rw_zero, rw_zero]
  · rw [z]
theorem Rp_some {v : Int} {r : List Int} (h : Rp n p pl v = some r) : ∃ d k, At n p d k ∧ v = gd 0 pl (p + (k : Int) * d) ∧ r = rw_ pl p d k := by
  unfold Rp at h
  split at h
  · rename_i ex
    cases h
    exact ⟨_, _, ex.choose_spec.1, ex.choose_spec.2.symm, rfl⟩
  · cases h
/-- neighbours lie side by side -/
theorem adj_path (P : Path n pl E) {i j : Int} (i0 : 0 ≤ i ∧ i < n) (j0 : 0 ≤ j ∧ j < n) : Adj E (gd 0 pl i) (gd 0 pl j) → i = j ∨ i = j + 1 ∨ j = i + 1 := fun ⟨e, ho, hw⟩ => by
  obtain ⟨q, q0, _, hq⟩ := P.ed e ho.1.1 ho.1.2
  have inj := fun a b => P.inj a b
  rcases (hq _).mp ho.2 with z | z <;> rcases (hq _).mp hw with y | y
  · have a := P.inj _ _ i0.1 i0.2 (by omega) (by omega) z
    have b := P.inj _ _ j0.1 j0.2 (by omega) (by omega) y
    omega
  · have a := P.inj _ _ i0.1 i0.2 (by omega) (by omega) z
    have b := P.inj _ _ j0.1 j0.2 (by omega) (by omega) y
    omega
  · have a := P.inj _ _ i0.1 i0.2 (by omega) (by omega) z
    have b := P.inj _ _ j0.1 j0.2 (by omega) (by omega) y
    omega
  · have a := P.inj _ _ i0.1 i0.2 (by omega) (by omega) z
    have b := P.inj _ _ j0.1 j0.2 (by omega) (by omega) y
    omega
theorem path_edge (P : Path n pl E) {i : Int} (i0 : 0 ≤ i ∧ i < n - 1) : ∀ x, x ∈ gd [] E i ↔ x = gd 0 pl i ∨ x = gd 0 pl (i + 1) := by
  have el := P.el
  obtain ⟨q, q0, q1, hq⟩ := P.ed i i0.1 (by omega)
  have := q1 i0.2
  subst this
  exact hq
/-- the least edge of two places side by side -/
theorem path_min (P : Path n pl E) {i : Int} (i0 : 0 ≤ i ∧ i < n - 1) : EdgeMin E (gd 0 pl i) (gd 0 pl (i + 1)) i ∧ EdgeMin E (gd 0 pl (i + 1)) (gd 0 pl i) i := by
  have el := P.el
  have he := path_edge P i0
  have least : ∀ e', (0 ≤ e' ∧ e' < (E.length : Int)) → gd 0 pl i ∈ gd [] E e' → gd 0 pl (i + 1) ∈ gd [] E e' → i ≤ e' := fun e' h0 h1 h2 => by
    by_cases c : e' < n - 1
    · obtain ⟨q, q0, q1, hq⟩ := P.ed e' h0.1 h0.2
      have := q1 c
      subst this
      rcases (hq _).mp h1 with z | z <;> rcases (hq _).mp h2 with y | y
      · have a := P.inj _ _ (by omega) (by omega) (by omega) (by omega) z
        omega
      · have a := P.inj _ _ (by omega) (by omega) (by omega) (by omega) z
        omega
      · have b := P.inj _ _ (by omega) (by omega) (by omega) (by omega) y
        omega
      · have a := P.inj _ _ (by omega) (by omega) (by omega) (by omega) z
        have b := P.inj _ _ (by omega) (by omega) (by omega) (by omega) y
        omega
    · omega
  exact ⟨⟨⟨⟨⟨i0.1, by omega⟩, (he _).mpr (.inl rfl)⟩, (he _).mpr (.inr rfl)⟩, fun e' ho hw => least e' ho.1 ho.2 hw⟩, ⟨⟨⟨⟨i0.1, by omega⟩, (he _).mpr (.inr rfl)⟩, (he _).mpr (.inl rfl)⟩, fun e' ho hw => least e' ho.1 hw ho.2⟩⟩
theorem At.back {d : Int} {k : Nat} (p0 : 0 ≤ p ∧ p < n) (h : At n p d (k + 1)) : At n p d k := by
  obtain ⟨h0, h1, h2⟩ := h
  refine ⟨h0, ?_⟩
  rcases h0 with q | q <;> subst q <;> omega
theorem path_rows (P : Path n pl E) (p0 : 0 ≤ p ∧ p < n) : Rows n E (gd 0 pl p) (Rp n p pl) := by
  have R0 : ∀ d, (d = 1 ∨ d = -1) → At n p d 0 := fun d hd => ⟨hd, by simp; exact p0.1, by simp; exact p0.2⟩
  have step : ∀ {d : Int} {k : Nat}, At n p d (k + 1) → Adj E (gd 0 pl (p + (k : Int) * d)) (gd 0 pl (p + ((k + 1 : Nat) : Int) * d)) := fun {d k} h => by
    obtain ⟨h0, h1, h2⟩ := h
    rcases h0 with q | q
    · subst q
      have m := (path_min P (i := p + (k : Int) * 1) ⟨by omega, by omega⟩).1
      have e : p + (k : Int) * 1 + 1 = p + ((k + 1 : Nat) : Int) * 1 := by omega
      rw [e] at m
      exact ⟨_, m.1⟩
    · subst q
      have m := (path_min P (i := p + ((k + 1 : Nat) : Int) * (-1)) ⟨by omega, by omega⟩).2
      have e : p + ((k + 1 : Nat) : Int) * (-1) + 1 = p + (k : Int) * (-1) := by omega
      rw [e] at m
      exact ⟨_, m.1⟩
  refine ⟨?_, P.ir _ (gd_mem p0.1 (by have := P.al; omega)), fun v r h => ?_, fun u q w hu ha => ?_⟩
  · have := Rp_at P (R0 1 (.inl rfl))
    simp only [rw_zero] at this
    simpa using this
  · obtain ⟨d, k, hA, ev, er⟩ := Rp_some h
    cases k with
    | zero => exact .inl (by rw [ev]; simp)
    | succ k => exact .inr ⟨_, _, Rp_at P (hA.back p0), by rw [ev]; exact step hA, by rw [er, rw_succ, ev]⟩
  · obtain ⟨d, k, hA, eu, eq⟩ := Rp_some hu
    subst eq
    have wj : ∃ j, (0 ≤ j ∧ j < n) ∧ w = gd 0 pl j := by
      obtain ⟨e, ho, hw⟩ := ha
      obtain ⟨i, i0, _, hi⟩ := P.ed e ho.1.1 ho.1.2
      rcases (hi w).mp hw with z | z
      · exact ⟨i, ⟨by omega, by omega⟩, z⟩
      · exact ⟨i + 1, ⟨by omega, by omega⟩, z⟩
    obtain ⟨j, j0, rfl⟩ := wj
    rw [eu] at ha
    have hj := adj_path P hA.2 j0 ha
    -- the place j, as a step of k - 1, k or k + 1
    have cases3 : (∃ d', At n p d' (k + 1) ∧ j = p + ((k + 1 : Nat) : Int) * d' ∧ rw_ pl p d' k = rw_ pl p d k) ∨ ∃ k' d', k' ≤ k ∧ At n p d' k' ∧ j = p + (k' : Int) * d' := by
      obtain ⟨h0, h1, h2⟩ := hA
      by_cases k0 : k = 0
      · subst k0
        by_cases c1 : j = p
        · exact .inr ⟨0, d, Nat.le_refl _, R0 d h0, by simp [c1]⟩
        · by_cases c2 : p < j
          · exact .inl ⟨1, ⟨.inl rfl, by simp; omega, by simp at hj ⊢; omega⟩, by simp at hj ⊢; omega, by rw [rw_zero, rw_zero]⟩
          · exact .inl ⟨-1, ⟨.inr rfl, by simp at hj ⊢; omega, by simp at hj ⊢; omega⟩, by simp at hj ⊢; omega, by rw [rw_zero, rw_zero]⟩
      · rcases h0 with q | q <;> subst q
        · by_cases c : j = p + (k : Int) * 1 + 1
          · exact .inl ⟨1, ⟨.inl rfl, by omega, by omega⟩, by omega, rfl⟩
          · by_cases c2 : j = p + (k : Int) * 1
            · exact .inr ⟨k, 1, Nat.le_refl _, ⟨.inl rfl, h1, h2⟩, c2⟩
            · exact .inr ⟨k - 1, 1, by omega, ⟨.inl rfl, by omega, by omega⟩, by omega⟩
        · by_cases c : j = p + (k : Int) * (-1) - 1
          · exact .inl ⟨-1, ⟨.inr rfl, by omega, by omega⟩, by omega, rfl⟩
          · by_cases c2 : j = p + (k : Int) * (-1)
            · exact .inr ⟨k, -1, Nat.le_refl _, ⟨.inr rfl, h1, h2⟩, c2⟩
            · exact .inr ⟨k - 1, -1, by omega, ⟨.inr rfl, by omega, by omega⟩, by omega⟩
    rcases cases3 with ⟨d', hA', ej, er⟩ | ⟨k', d', hk, hA', ej⟩
    · rw [ej]
      refine ⟨_, Rp_at P hA', ?_⟩
      rw [rw_succ, er]
      exact sto_row.irr _
    · rw [ej]
      refine ⟨_, Rp_at P hA', ?_⟩
      exact sto_row.asym (rowLt_len (by rw [rw_len]; simp [rw_len]; omega))
end
end K02

namespace K02
open PySem L2 PL
/-! both ways from a place of the path -/
structure Ways (n p : Int) (pl : List Int) (ws : List (Int × Int)) : Prop where
  nd : ws.Nodup
  len : ws.length ≤ 2
  me : ∀ w, w ∈ ws ↔ (w = (gd 0 pl (p - 1), -1) ∧ 0 < p) ∨ (w = (gd 0 pl (p + 1), 1) ∧ p < n - 1)
structure Both (n p : Int) (pl : List Int) (E : List (List Int)) (far : Nat) (pre : List (Int × Int)) (links : List (Int × Int × Int)) : Prop where
  len : links.length ≤ 2 * far + pre.length
  as : (gd 0 pl p :: links.map (·.2.2)).Pairwise (KeyLt (Rp n p pl))
  lk : ∀ l ∈ links, LinkOf E (Rp n p pl) l
  ea : ∀ v ∈ links.map (·.2.2), ∃ d k, At n p d (k + 1) ∧ v = gd 0 pl (p + ((k + 1 : Nat) : Int) * d) ∧ (k < far ∨ (k = far ∧ ∃ w ∈ pre, w.2 = d))
  al : ∀ d k, At n p d (k + 1) → (k < far ∨ (k = far ∧ ∃ w ∈ pre, w.2 = d)) → gd 0 pl (p + ((k + 1 : Nat) : Int) * d) ∈ links.map (·.2.2)
section
variable {n p : Int} {pl : List Int} {E : List (List Int)}
theorem both_b2_yl (P : Path n pl E) (p0 : 0 ≤ p ∧ p < n) {ws pre : List (Int × Int)} (W : Ways n p pl ws) {far : Nat} (hf : (far : Int) < n) {links : List (Int × Int × Int)} (B : Both n p pl E far pre links) {w : Int × Int} (hw : w ∈ ws) (hp : ∀ y ∈ pre, y ∈ ws ∧ ordT2 ltI ltI y w = true) (hl : pre.length ≤ 2) :
    Yl (law_both_ways_b2 pl p (far : Int) links w) (Both n p pl E far (pre ++ [w])) := by
  have al := P.al
  have n1 := P.n1
  have way : ∀ y ∈ ws, (y.2 = 1 ∨ y.2 = -1) ∧ y.1 = gd 0 pl (p + y.2) ∧ 0 ≤ p + y.2 ∧ p + y.2 < n := fun y hy => by
    rcases (W.me y).mp hy with ⟨z, q⟩ | ⟨z, q⟩ <;> rw [z]
    · exact ⟨.inr rfl, rfl, by simp only; omega, by simp only; omega⟩
    · exact ⟨.inl rfl, rfl, by simp only; omega, by simp only; omega⟩
  obtain ⟨hd, hw1, hw2, hw3⟩ := way w hw
  obtain ⟨w1, d⟩ := w
  simp only at hd hw1 hw2 hw3
  unfold law_both_ways_b2
  refine yl_grd (by omega) (yl_bnd fun here eh => yl_ite (fun c => ?_) fun c => yl_some ?_)
  · have eh : here = p + (far : Int) * d := eh
    have c : 0 ≤ here + d ∧ here + d < (pl.length : Int) := by simpa using c
    have hA : At n p d (far + 1) := by
      refine ⟨hd, ?_⟩
      rcases hd with q | q <;> subst q <;> omega
    have hr : 0 ≤ here ∧ here < n := by
      have := (hA.back p0).2
      omega
    have e2 : here + d = p + ((far + 1 : Nat) : Int) * d := by rcases hd with q | q <;> subst q <;> omega
    refine yl_gd 0 hr.1 (by omega) (yl_gd 0 (by simp only; omega) (by simp only; omega) (yl_grd (by have := B.len; omega) (yl_bnd fun _ e => yl_some ?_)))
    subst e
    have hR := Rp_at P hA
    have hR0 := Rp_at P (hA.back p0)
    have hnew : KeyLt (Rp n p pl) (gd 0 pl p) (gd 0 pl (p + ((far + 1 : Nat) : Int) * d)) := ⟨_, _, (path_rows P p0).rs, hR, rowLt_len (by rw [rw_len]; simp)⟩
    refine ⟨?_, ?_, fun l hl => ?_, fun v hv => ?_, fun d' k hA' hk => ?_⟩
    · have := B.len
      simp
      omega
    · rw [List.map_append, ← List.cons_append, List.pairwise_append]
      refine ⟨B.as, by simp, fun x hx y hy => ?_⟩
      simp only [List.map_cons, List.map_nil, List.mem_singleton] at hy
      subst hy
      show KeyLt (Rp n p pl) x (gd 0 pl (here + d))
      rw [e2]
      rcases List.mem_cons.mp hx with z | z
      · subst z; exact hnew
      · obtain ⟨d', k, hA', ev, hk⟩ := B.ea x z
        rw [ev]
        refine ⟨_, _, Rp_at P hA', hR, ?_⟩
        rcases hk with hk | ⟨hk, y, hy, ey⟩
        · exact rowLt_len (by rw [rw_len, rw_len]; omega)
        · subst hk
          obtain ⟨hy1, hy2⟩ := hp y hy
          obtain ⟨_, y1, y2, y3⟩ := way y hy1
          rw [ey] at y1 y2 y3
          rw [rowLt_same (by rw [rw_len, rw_len])]
          obtain ⟨r, er⟩ := rw_head pl p d' k
          obtain ⟨r', er'⟩ := rw_head pl p d k
          rw [er, er']
          unfold ordL
          rw [if_pos rfl]
          unfold ordL
          have ne : gd 0 pl (p + d') ≠ gd 0 pl (p + d) := fun z => by
            have := P.inj _ _ y2 y3 hw2 hw3 z
            have : d' = d := by omega
            subst this
            have : y = (w1, d') := Prod.ext (y1.trans hw1.symm) ey
            rw [this, (sto_T2 sto_int sto_int).irr] at hy2
            cases hy2
          rw [if_neg ne, ← y1, ← hw1]
          unfold ordT2 at hy2
          rw [if_neg (by rw [y1, hw1]; exact ne)] at hy2
          exact hy2
    · rcases List.mem_append.mp hl with z | z
      · exact B.lk l z
      · rw [List.mem_singleton.mp z]
        refine ⟨⟨_, by rw [eh]; exact hR0, by show Rp n p pl (gd 0 pl (here + d)) = some (_ ++ [gd 0 pl (here + d)]); rw [e2, hR, rw_succ]⟩, ?_⟩
        show EdgeMin E (gd 0 pl here) (gd 0 pl (here + d)) (if (here + d) < here then (here + d) else here)
        rcases hd with q | q <;> subst q
        · rw [if_neg (by omega)]
          exact (path_min P ⟨hr.1, by omega⟩).1
        · rw [if_pos (by omega)]
          have := (path_min P (i := here + -1) ⟨c.1, by omega⟩).2
          have e3 : here + -1 + 1 = here := by omega
          rw [e3] at this
          exact this
    · rw [List.map_append] at hv
      rcases List.mem_append.mp hv with z | z
      · obtain ⟨d', k, hA', ev, hk⟩ := B.ea v z
        refine ⟨d', k, hA', ev, hk.imp id fun ⟨hk, y, hy, ey⟩ => ⟨hk, y, List.mem_append_left _ hy, ey⟩⟩
      · simp only [List.map_cons, List.map_nil, List.mem_singleton] at z
        exact ⟨d, far, hA, by rw [z, ← e2], .inr ⟨rfl, _, List.mem_append_right _ (.head _), rfl⟩⟩
    · rw [List.map_append, List.mem_append]
      rcases hk with hk | ⟨hk, y, hy, ey⟩
      · exact .inl (B.al d' k hA' (.inl hk))
      · rcases List.mem_append.mp hy with z | z
        · exact .inl (B.al d' k hA' (.inr ⟨hk, y, z, ey⟩))
        · rw [List.mem_singleton.mp z] at ey
          simp only at ey
          subst ey
          subst hk
          refine .inr ?_
          simp only [List.map_cons, List.map_nil, List.mem_singleton]
          rw [e2]
  · have c : ¬ (0 ≤ here + d ∧ here + d < (pl.length : Int)) := by simpa using c
    have eh : here = p + (far : Int) * d := eh
    have hA : ¬ At n p d (far + 1) := fun ⟨h0, h1, h2⟩ => c (by rcases hd with q | q <;> subst q <;> omega)
    refine ⟨by have := B.len; simp; omega, B.as, B.lk, fun v hv => ?_, fun d' k hA' hk => ?_⟩
    · obtain ⟨d', k, hA', ev, hk⟩ := B.ea v hv
      exact ⟨d', k, hA', ev, hk.imp id fun ⟨hk, y, hy, ey⟩ => ⟨hk, y, List.mem_append_left _ hy, ey⟩⟩
    · rcases hk with hk | ⟨hk, y, hy, ey⟩
      · exact B.al d' k hA' (.inl hk)
      · rcases List.mem_append.mp hy with z | z
        · exact B.al d' k hA' (.inr ⟨hk, y, z, ey⟩)
        · rw [List.mem_singleton.mp z] at ey
          simp only at ey
          subst ey
          subst hk
          exact absurd hA' hA
theorem both_J2_yl (P : Path n pl E) (p0 : 0 ≤ p ∧ p < n) {ways : List (Int × Int)} (W : Ways n p pl ways) : Yl (law_both_ways_J2 pl p ways) (SpreadOk E (gd 0 pl p) (Rp n p pl)) := by
  have al := P.al
  have n1 := P.n1
  have asc := sort_asc (sto_T2 sto_int sto_int) W.nd
  have ms : ∀ w, w ∈ sortBy (ordT2 ltI ltI) ways ↔ w ∈ ways := fun w => sortBy_perm.mem_iff
  have sl : (sortBy (ordT2 ltI ltI) ways).length ≤ 2 := by rw [sortBy_perm.length_eq]; exact W.len
  unfold law_both_ways_J2
  refine yl_bnd fun l0 e0 => yl_grd (by omega) (yl_bind (yl_rng (fun k z => Both n p pl E k [] z) ?_ fun k hk z B => ?_) fun z B => yl_some ⟨B.as, fun v => ?_, B.lk⟩)
  · subst e0
    exact ⟨by simp, by simp, (fun _ z => nomatch z), (fun _ z => nomatch z), fun d k hA hk => hk.elim (fun z => absurd z (Nat.not_lt_zero _)) fun ⟨_, _, z, _⟩ => nomatch z⟩
  · have ek : 0 + (k : Int) = k := by omega
    rw [ek] at hk ⊢
    unfold law_both_ways_b1
    refine yl_bind (yl_foldP (fun (pre : List (Int × Int)) z => Both n p pl E k pre z) B fun pre w suf ep z B => ?_) fun z B => yl_some ?_
    · have ep : sortBy (ordT2 ltI ltI) ways = pre ++ w :: suf := ep
      have hw : w ∈ ways := (ms w).mp (by rw [ep]; simp)
      rw [ep] at asc sl
      refine both_b2_yl P p0 W (by omega) B hw (fun y hy => ⟨(ms y).mp (by rw [ep]; exact List.mem_append_left _ hy), (List.pairwise_append.mp asc).2.2 y hy w (.head _)⟩) (by simp at sl; omega)
    · have hb := B.len
      refine ⟨by have : (sortBy (ordT2 (fun a b : Int => decide (a < b)) (fun a b : Int => decide (a < b))) ways).length ≤ 2 := sl; simp; omega, B.as, B.lk, fun v hv => ?_, fun d' j hA' hj => B.al d' j hA' ?_⟩
      · obtain ⟨d', j, hA', ev, hj⟩ := B.ea v hv
        exact ⟨d', j, hA', ev, .inl (by rcases hj with hj | ⟨hj, _⟩ <;> omega)⟩
      · rcases hj with hj | ⟨_, y, hy, _⟩
        · by_cases c : j < k
          · exact .inl c
          · have : j = k := by omega
            subst this
            refine .inr ⟨rfl, ?_⟩
            obtain ⟨h0, h1, h2⟩ := hA'
            rcases h0 with q | q <;> subst q
            · exact ⟨_, (ms _).mpr ((W.me _).mpr (.inr ⟨rfl, by omega⟩)), rfl⟩
            · exact ⟨_, (ms _).mpr ((W.me _).mpr (.inl ⟨rfl, by omega⟩)), rfl⟩
        · cases hy
  · constructor
    · intro hv
      rcases List.mem_cons.mp hv with z | z
      · exact ⟨_, z ▸ (path_rows P p0).rs⟩
      · obtain ⟨d, k, hA, ev, _⟩ := B.ea v z
        exact ⟨_, ev ▸ Rp_at P hA⟩
    · rintro ⟨r, hr⟩
      obtain ⟨d, k, hA, ev, _⟩ := Rp_some hr
      cases k with
      | zero => rw [ev]; simp
      | succ k =>
        rw [ev]
        refine .tail _ (B.al d k hA (.inl ?_))
        obtain ⟨h0, h1, h2⟩ := hA
        rcases h0 with q | q <;> subst q <;> omega
theorem law_both_ways_yl (P : Path n pl E) (p0 : 0 ≤ p ∧ p < n) : Yl (law_both_ways pl p) (SpreadOk E (gd 0 pl p) (Rp n p pl)) := by
  have al := P.al
  have n0 := P.n0
  have J1 : ∀ ways : List (Int × Int), ways.Nodup → ways.length ≤ 1 → (∀ w, w ∈ ways ↔ (w = (gd 0 pl (p - 1), -1) ∧ 0 < p)) → Yl (law_both_ways_J1 pl p ways) (SpreadOk E (gd 0 pl p) (Rp n p pl)) := fun ways nd wl me => by
    unfold law_both_ways_J1
    refine yl_ite (fun c => ?_) fun c => both_J2_yl P p0 ⟨nd, by omega, fun w => ?_⟩
    · have c : p < (pl.length : Int) - 1 := by simpa using c
      refine yl_gd 0 (by omega) (by omega) (yl_grd (by omega) (yl_bnd fun _ e => both_J2_yl P p0 ⟨?_, ?_, fun w => ?_⟩))
      · subst e
        rw [List.nodup_append]
        refine ⟨nd, by simp, fun a ha b hb e => ?_⟩
        rw [List.mem_singleton.mp hb] at e
        have := ((me a).mp ha).1
        rw [this] at e
        injection e with _ e
        cases e
      · subst e; simp; omega
      · subst e
        rw [List.mem_append, me, List.mem_singleton]
        constructor
        · exact fun z => z.imp id fun z => ⟨z, by omega⟩
        · exact fun z => z.imp id fun z => z.1
    · have c : ¬ p < (pl.length : Int) - 1 := by simpa using c
      rw [me]
      exact ⟨.inl, fun z => z.elim id fun z => by omega⟩
  unfold law_both_ways
  refine yl_bnd fun w0 e0 => yl_ite (fun c => ?_) fun c => J1 _ (by subst e0; simp) (by subst e0; simp) fun w => ?_
  · have c : 0 < p := by simpa using c
    refine yl_gd 0 (by omega) (by omega) (yl_grd (by subst e0; simp) (yl_bnd fun _ e => J1 _ ?_ ?_ fun w => ?_))
    · subst e e0; simp
    · subst e e0; simp
    · subst e e0
      simp only [List.nil_append, List.mem_singleton]
      exact ⟨fun z => ⟨z, c⟩, fun z => z.1⟩
  · have c : ¬ 0 < p := by simpa using c
    subst e0
    exact ⟨fun z => (nomatch z), fun z => absurd z.2 c⟩
end
end K02

namespace K02
open PySem L2 PL
theorem map_raw {E : List (List Int)} {b : Bool} : (E.map fun x => (b, x)).map (·.2) = E := by
  rw [List.map_map]
  exact List.map_id' E
theorem law_form_eq (E : List (List Int)) (f : Int) : ∃ H, law_form E f = some H ∧ raw H = E := by
  unfold law_form
  split
  · exact ⟨_, rfl, map_raw⟩
  · split
    · exact ⟨_, rfl, map_raw⟩
    · split
      · exact ⟨_, rfl, map_raw⟩
      · exact ⟨_, rfl, map_raw⟩
theorem numbers_yl (x : Int × Int × Int) : Yl (law_numbers x x) fun b => b = true := by
  unfold law_numbers
  refine yl_ite (fun c => ?_) fun _ => ?_
  · simp at c
  · refine yl_bind (yl_forC (fun _ _ => True) (fun _ => True) (fun r => r = true) trivial (fun k hk s _ => ?_) fun _ _ => trivial) fun c hc => ?_
    · rw [rng_len] at hk
      rw [rng_get]
      have hk3 : 0 + (k : Int) < (([x.1, x.2.1, x.2.2] : List Int).length : Int) := by simp; omega
      unfold law_numbers_b1 law_whole
      refine yl_gd 0 (by omega) hk3 ?_
      show Yl (Option.bind (some true) _) _
      rw [Option.bind_some]
      refine yl_bind (P := fun b => b = false) (yl_ite (fun c => by cases c) fun _ => yl_gd 0 (by omega) hk3 (yl_gd 0 (by omega) hk3 (yl_some ?_))) fun b hb => yl_ite (fun c => ?_) fun _ => yl_some trivial
      · simp
      · rw [hb] at c; cases c
    · cases c with
      | nx s => exact yl_some rfl
      | bk s => exact yl_some rfl
      | rt r => exact yl_some hc
theorem law_asked_yl {n s : Int} {E : List (List Int)} {R : Int → Option (List Int)} (w : WF n E) (h : Rows n E s R) {links : List (Int × Int × Int)} (ok : SpreadOk E s R links) (f : Int) : Yl (law_asked n E s links f) fun b => b = true := by
  have n0 := w.n0
  have n1 := w.n1
  obtain ⟨H, eH, rH⟩ := law_form_eq E f
  have ll : links.length ≤ 100000 := by
    have := nodup_len 100000 _ (key_nodup ok.as) fun x hx => by
      obtain ⟨r, hr⟩ := (ok.me x).mp hx
      rcases h.ri x r hr with z | ⟨u, q, _, ⟨e, ho, hx⟩, _⟩
      · have := h.sr; omega
      · have := w.on ⟨ho.1, hx⟩; omega
    simp at this
    omega
  unfold law_asked
  rw [eH]
  simp only [Option.bind_some]
  refine yl_bnd fun handed eh => ?_
  rw [eh]
  refine yl_bind (spread_yl (R := R) (s := s) (by rw [rH]; exact w) (by rw [rH]; exact h)) fun v ev => yl_bnd fun told et => ?_
  rw [rH] at ev
  have e3 : told = links := by rw [et]; exact spread_uniq h ev ok
  subst e3
  refine yl_ite (fun c => ?_) fun _ => yl_grd (by omega) ?_
  · simp at c
  · refine yl_bind (yl_forC (fun _ _ => True) (fun _ => True) (fun r => r = true) trivial (fun k hk s _ => ?_) fun _ _ => trivial) fun c hc => ?_
    · rw [rng_len] at hk
      rw [rng_get]
      unfold law_asked_b1
      refine yl_gd (0, 0, 0) (by omega) (by omega) (yl_gd (0, 0, 0) (by omega) (by omega) (yl_bind (numbers_yl _) fun b hb => yl_ite (fun c => ?_) fun _ => yl_some trivial))
      rw [hb] at c; cases c
    · cases c with
      | nx s => exact yl_some rfl
      | bk s => exact yl_some rfl
      | rt r => exact yl_some hc
/-! the path that is drawn -/
theorem sum_le (c : Nat) : ∀ es : List (List Int), (∀ e ∈ es, e.length ≤ c) → (es.map List.length).sum ≤ es.length * c
  | [], _ => by simp
  | e :: es, h => by
    have h1 := sum_le c es fun x hx => h x (.tail _ hx)
    have h2 := h e (.head _)
    simp only [List.map_cons, List.sum_cons, List.length_cons, Nat.add_mul]
    omega
theorem step_inj {n x f : Int} (n0 : 0 < n) (hf : f = 1 ∨ f = 7 ∨ f = 11 ∨ f = 13) (hn : f = 1 ∨ n % f ≠ 0) (x0 : -n < x ∧ x < n) (k : Int) (h : x * f = n * k) : x = 0 := by
  have f0 : 0 < f ∧ f ≤ 13 := by omega
  have k1 : k < f := Classical.byContradiction fun c => by
    have a := Int.mul_le_mul_of_nonneg_left (show f ≤ k by omega) (show 0 ≤ n by omega)
    have b := Int.mul_lt_mul_of_pos_right x0.2 f0.1
    omega
  have k2 : -f < k := Classical.byContradiction fun c => by
    have a := Int.mul_le_mul_of_nonneg_left (show k ≤ -f by omega) (show 0 ≤ n by omega)
    have b := Int.mul_lt_mul_of_pos_right x0.1 f0.1
    rw [Int.mul_neg] at a
    rw [Int.neg_mul] at b
    omega
  have ks : k = -12 ∨ k = -11 ∨ k = -10 ∨ k = -9 ∨ k = -8 ∨ k = -7 ∨ k = -6 ∨ k = -5 ∨ k = -4 ∨ k = -3 ∨ k = -2 ∨ k = -1 ∨ k = 0 ∨ k = 1 ∨ k = 2 ∨ k = 3 ∨ k = 4 ∨ k = 5 ∨ k = 6 ∨ k = 7 ∨ k = 8 ∨ k = 9 ∨ k = 10 ∨ k = 11 ∨ k = 12 := by omega
  rcases hf with q | q | q | q <;> subst q
  · have : k = 0 := by omega
    subst this
    omega
  all_goals rcases ks with e | e | e | e | e | e | e | e | e | e | e | e | e | e | e | e | e | e | e | e | e | e | e | e | e <;> subst e <;> omega
theorem mod_inj {n f c i j : Int} (hf : f = 1 ∨ f = 7 ∨ f = 11 ∨ f = 13) (hn : f = 1 ∨ n % f ≠ 0) (i0 : 0 ≤ i ∧ i < n) (j0 : 0 ≤ j ∧ j < n) (h : (i * f + c) % n = (j * f + c) % n) : i = j := by
  have a := Int.emod_add_mul_ediv (i * f + c) n
  have b := Int.emod_add_mul_ediv (j * f + c) n
  have : i - j = 0 := step_inj (k := (i * f + c) / n - (j * f + c) / n) (by omega) hf hn (by omega) (by
    rw [Int.sub_mul, Int.mul_sub]
    omega)
  omega
theorem rep_gd {α : Type} {d : α} {xs : List α} (hx : 0 < xs.length) : ∀ (k : Nat) (e : Int), 0 ≤ e → e < ((List.replicate k xs).flatten.length : Int) → ∃ i, (0 ≤ i ∧ i < (xs.length : Int)) ∧ (e < (xs.length : Int) → i = e) ∧ gd d (List.replicate k xs).flatten e = gd d xs i
  | 0, e, e0, e1 => by simp at e1; omega
  | k + 1, e, e0, e1 => by
    rw [List.replicate_succ, List.flatten_cons] at e1 ⊢
    by_cases c : e < (xs.length : Int)
    · refine ⟨e, ⟨e0, c⟩, fun _ => rfl, ?_⟩
      unfold gd
      rw [List.getD_eq_getElem?_getD, List.getD_eq_getElem?_getD, List.getElem?_append_left (by omega)]
    · obtain ⟨i, i0, i1, i2⟩ := rep_gd (d := d) hx k (e - xs.length) (by omega) (by rw [List.length_append] at e1; omega)
      refine ⟨i, i0, fun z => absurd z c, ?_⟩
      rw [← i2]
      unfold gd
      rw [List.getD_eq_getElem?_getD, List.getD_eq_getElem?_getD, List.getElem?_append_right (by omega)]
      congr 2
      omega
theorem path_J1_yl {d : List Int} (hd : d.length = 10) (d3 : 0 ≤ gi d 3 ∧ gi d 3 < 9000) (d4 : 0 ≤ gi d 4 ∧ gi d 4 < 5) {n f : Int} (n0 : 9000 ≤ n ∧ n ≤ 12001) (hf : f = 1 ∨ f = 7 ∨ f = 11 ∨ f = 13) (hn : f = 1 ∨ n % f ≠ 0) : Yl (law_path_J1 d n f) fun r => r.1 = n ∧ Path r.1 r.2.1 r.2.2 ∧ WF r.1 r.2.2 := by
  unfold law_path_J1
  refine yl_grd (by omega) (yl_grd (by rw [rng_len]; omega) ?_)
  rw [lcM (f := fun i => (i * f + gi d 3) % n) fun i hi => by
    have hi := rng_mem.mp hi
    rw [grd_pos (by omega), atI_gi (by omega) (by omega), Option.bind_some, grd_pos (by omega)]
    rfl]
  rw [Option.bind_some]
  refine yl_bnd fun pl ep => yl_grd (by omega) (yl_grd (by rw [rng_len]; omega) ?_)
  have al : (pl.length : Int) = n := by rw [ep, List.length_map, rng_len]; omega
  have g : ∀ i, 0 ≤ i → i < n → gd 0 pl i = (i * f + gi d 3) % n := fun i i0 i1 => by
    rw [ep]
    refine (gd_map (e := 0) i0 (by rw [rng_len]; omega)).trans ?_
    have e0 : 0 + i = i := by omega
    rw [gd_rng i0 (by omega), e0]
  have ir : Inr n pl := fun x hx => by
    rw [ep] at hx
    obtain ⟨i, _, rfl⟩ := List.mem_map.mp hx
    exact ⟨Int.emod_nonneg _ (by omega), Int.emod_lt_of_pos _ (by omega)⟩
  rw [lcM (f := fun i => sortBy (fun a b : Int => decide (a < b)) [gd 0 pl i, gd 0 pl (i + 1)]) fun i hi => by
    have hi := rng_mem.mp hi
    rw [atI_gd 0 (by omega) (by omega), Option.bind_some, atI_gd 0 (by omega) (by omega), Option.bind_some]]
  rw [Option.bind_some]
  refine yl_bnd fun base eb => yl_gi (by omega) (by omega) ?_
  have e4 : (4 : Int).toNat = 4 := rfl
  rw [e4]
  have bl : (base.length : Int) = n - 1 := by rw [eb, List.length_map, rng_len]; omega
  have gb : ∀ i, 0 ≤ i → i < n - 1 → gd [] base i = sortBy (fun a b : Int => decide (a < b)) [gd 0 pl i, gd 0 pl (i + 1)] := fun i i0 i1 => by
    rw [eb]
    refine (gd_map (e := 0) i0 (by rw [rng_len]; omega)).trans ?_
    rw [gd_rng i0 (by omega)]
    have : 0 + i = i := by omega
    rw [this]
  have rl : (repL base (1 + gi d 4)).length = (1 + gi d 4).toNat * base.length := by unfold repL; simp
  have rl2 : (1 + gi d 4).toNat * base.length ≤ 5 * base.length := Nat.mul_le_mul_right _ (by omega)
  have rl3 : 1 * base.length ≤ (1 + gi d 4).toNat * base.length := Nat.mul_le_mul_right _ (by omega)
  refine yl_grd (by rw [sz_eq, Nat.mul_comm]; show _ ∧ _ ∧ (1 + gi d 4).toNat * base.length ≤ _; omega) (yl_some ⟨rfl, ⟨by show 2 ≤ n; omega, by show n ≤ 100000; omega, al, ir, fun i j i0 i1 j0 j1 e => ?_, by show n - 1 ≤ ((repL base (1 + gi d 4)).length : Int); omega, fun e e0 e1 => ?_⟩, ⟨by show 0 ≤ n; omega, by show n ≤ 100000; omega, fun e he => ?_, by show (repL base (1 + gi d 4)).length ≤ 100000; omega, ?_⟩⟩)
  · show i = j
    have e : gd 0 pl i = gd 0 pl j := e
    rw [g i i0 i1, g j j0 j1] at e
    exact mod_inj hf hn ⟨i0, i1⟩ ⟨j0, j1⟩ e
  · obtain ⟨i, i0, i1, i2⟩ := rep_gd (d := []) (xs := base) (by omega) (1 + gi d 4).toNat e e0 e1
    refine ⟨i, ⟨i0.1, by show i < n - 1; omega⟩, fun c => i1 (by have c : e < n - 1 := c; omega), fun x => ?_⟩
    show x ∈ gd [] (repL base (1 + gi d 4)) e ↔ x = gd 0 pl i ∨ x = gd 0 pl (i + 1)
    unfold repL
    rw [i2, gb i i0.1 (by omega), sortBy_perm.mem_iff]
    simp
  · have he : e ∈ repL base (1 + gi d 4) := he
    unfold repL at he
    obtain ⟨l, hl, he⟩ := List.mem_flatten.mp he
    rw [List.eq_of_mem_replicate hl, eb] at he
    obtain ⟨i, hi, rfl⟩ := List.mem_map.mp he
    have hi := rng_mem.mp hi
    intro x hx
    have hx := sortBy_perm.mem_iff.mp hx
    simp at hx
    rcases hx with z | z <;> rw [z] <;> exact ir _ (gd_mem (by omega) (by omega))
  · show ((repL base (1 + gi d 4)).map List.length).sum < 16000000
    have := sum_le 2 (repL base (1 + gi d 4)) fun e he => by
      unfold repL at he
      obtain ⟨l, hl, he⟩ := List.mem_flatten.mp he
      rw [List.eq_of_mem_replicate hl, eb] at he
      obtain ⟨i, hi, rfl⟩ := List.mem_map.mp he
      rw [sortBy_perm.length_eq]
      exact Nat.le_refl _
    omega
abbrev draws : List Int := [64, 3001, 4, 9000, 5, 12000, 4, 60, 60, 60]
theorem law_path_yl {d : List Int} (h : Dig d draws) : Yl (law_path d) fun r => 9000 ≤ r.1 ∧ Path r.1 r.2.1 r.2.2 ∧ WF r.1 r.2.2 := by
  have hd : d.length = 10 := h.1
  have d1 : 0 ≤ gi d 1 ∧ gi d 1 < 3001 := h.2 1 (by simp)
  have d2 : 0 ≤ gi d 2 ∧ gi d 2 < 4 := h.2 2 (by simp)
  have d3 : 0 ≤ gi d 3 ∧ gi d 3 < 9000 := h.2 3 (by simp)
  have d4 : 0 ≤ gi d 4 ∧ gi d 4 < 5 := h.2 4 (by simp)
  unfold law_path
  refine yl_gi (by omega) (by omega) (yl_bnd fun n en => yl_gi (by omega) (by omega) (yl_gd 0 d2.1 (by simpa using d2.2) (yl_bnd fun f ef => ?_)))
  have en : n = 9000 + gi d 1 := en
  have hf : f = 1 ∨ f = 7 ∨ f = 11 ∨ f = 13 := by
    have hm : gd 0 [(1 : Int), 7, 11, 13] (gi d 2) ∈ [(1 : Int), 7, 11, 13] := gd_mem d2.1 (by simpa using d2.2)
    have ef : f = gd 0 [(1 : Int), 7, 11, 13] (gi d 2) := ef
    rw [← ef] at hm
    simpa using hm
  refine yl_grd (by omega) (yl_ite (fun c => yl_bnd fun f1 e1 => ?_) fun c => ?_)
  · refine yl_mono (path_J1_yl hd d3 d4 (n := n) (f := f1) (by omega) (.inl e1) (.inl e1)) fun r ⟨a, b, c⟩ => ⟨by omega, b, c⟩
  · have c : n % f ≠ 0 := by simpa using c
    refine yl_mono (path_J1_yl hd d3 d4 (n := n) (f := f) (by omega) hf (.inr c)) fun r ⟨a, b, c⟩ => ⟨by omega, b, c⟩
theorem NetOk.wf {n : Int} {E : List (List Int)} (h : NetOk (n, E)) : WF n E := by
  obtain ⟨a1, a2, a3, a4⟩ := h
  simp only at a1 a2 a3 a4
  refine ⟨by omega, by omega, fun e he => (a4 e he).1, by omega, ?_⟩
  have := sum_le 60 E fun e he => by have := (a4 e he).2; omega
  omega
theorem ask_yl {n s : Int} {E : List (List Int)} (w : WF n E) (s0 : 0 ≤ s ∧ s < n) (f : Int) : Yl (law_links n E s) fun links => Yl (law_asked n E s links f) fun b => b = true :=
  yl_mono (law_links_yl w s0) fun links ⟨R, h, ok⟩ => law_asked_yl w h ok f
theorem law_J1_yl {d : List Int} (hd : d.length = 10) {n : Int} {E : List (List Int)} (h : NetOk (n, E)) {st : List Int} (s0 : st ≠ []) (sl : st.length ≤ 60) (si : Inr n st) : Yl (law_J1 d n E st) fun b => b = true := by
  have w := h.wf
  have w2 : WF n E.reverse := by
    refine NetOk.wf ⟨h.1, h.2.1, by simpa using h.2.2.1, fun e he => h.2.2.2 e (List.mem_reverse.mp he)⟩
  have sp := List.length_pos_iff.mpr s0
  have inr2 : Inr n (st ++ cutL st none (some 1)) := fun x hx => by
    rcases List.mem_append.mp hx with z | z
    · exact si x z
    · exact si x (cutL_mem z)
  unfold law_J1
  refine yl_grd (by
    rw [sz_eq, cutL_to (by omega), List.length_take]
    omega) (yl_bind (yl_forC (fun _ _ => True) (fun _ => True) (fun r => False) trivial (fun k hk s _ => ?_) fun _ _ => trivial) fun c hc => ?_)
  · unfold law_b1
    have hs := inr2 _ (List.getElem_mem hk)
    refine yl_bind (ask_yl w hs (gi d 6)) fun lk hlk => yl_gi (by omega) (by omega) (yl_bind hlk fun b hb => yl_ite (fun c => ?_) fun _ => yl_some trivial)
    rw [hb] at c; cases c
  · have rest : Yl (bnd (E.reverse) fun opposite => (atI st (((st).length : Int) - (1 : Int))).bind fun e_v => bnd (e_v) fun last => (law_links n opposite last).bind fun v => (atI d (6 : Int)).bind fun e_v_1 => (law_asked n opposite last v ((3 : Int) - e_v_1)).bind fun v_1 =>
        if (!v_1) then (some false) else ((atI st (0 : Int)).bind fun e_v_2 => (atI st (0 : Int)).bind fun e_v_3 => (law_links n E e_v_3).bind fun v_2 => (atI d (6 : Int)).bind fun e_v_4 => (law_asked n E e_v_2 v_2 e_v_4).bind fun v_3 => some v_3)) fun b => b = true := by
      refine yl_bnd fun op eo => yl_gd 0 (by omega) (by omega) (yl_bnd fun last el => ?_)
      subst eo
      have hl : 0 ≤ last ∧ last < n := by rw [el]; exact si _ (gd_mem (by omega) (by omega))
      have h0 := si _ (gd_mem (d := 0) (i := 0) (by omega) (show (0 : Int) < (st.length : Int) by omega))
      refine yl_bind (ask_yl w2 hl (3 - gi d 6)) fun lk hlk => yl_gi (by omega) (by omega) (yl_bind hlk fun b hb => yl_ite (fun c => ?_) fun _ => ?_)
      · rw [hb] at c; cases c
      · refine yl_gd 0 (by omega) (by omega) (yl_gd 0 (by omega) (by omega) (yl_bind (ask_yl w h0 (gi d 6)) fun lk hlk => yl_gi (by omega) (by omega) (yl_bind hlk fun b hb => yl_some hb)))
    cases c with
    | nx s => exact rest
    | bk s => exact rest
    | rt r => exact hc.elim
theorem law_true (ns : List Int) (hl : ns.length ≤ 63) : law ns = some true := by
  refine yl_is ?_
  unfold law
  simp only [bnd_eq]
  refine yl_bind (law_cell_yl ns 10 (by omega) (by omega)) fun z _ => yl_bind (law_digits_yl z draws (by simp) fun s hs => ?_) fun d hd => ?_
  · simp at hs
    omega
  have h10 : d.length = 10 := hd.1
  have d5 : 0 ≤ gi d 5 ∧ gi d 5 < 12000 := hd.2 5 (by simp)
  refine yl_gi (by omega) (by omega) (yl_ite (fun _ => ?_) fun _ => ?_)
  · refine yl_bind (law_path_yl hd) fun ⟨n, pl, E⟩ ⟨a, P, w⟩ => yl_gi (by omega) (by omega) ?_
    simp only at a P w ⊢
    have al := P.al
    have p0 : 0 ≤ gi d 5 % n ∧ gi d 5 % n < n := ⟨Int.emod_nonneg _ (by omega), Int.emod_lt_of_pos _ (by omega)⟩
    refine yl_grd (by omega) (yl_gd 0 p0.1 (by rw [al]; exact p0.2) (yl_bind (law_both_ways_yl P p0) fun lk hlk => yl_gi (by omega) (by omega) (yl_bind (law_asked_yl w (path_rows P p0) hlk _) fun b hb => yl_some hb)))
  · refine yl_bind (law_net_yl ns 0 (by omega) (by omega)) fun ⟨n, E⟩ h => ?_
    simp only
    have n0 : 1 ≤ n ∧ n ≤ 60 := ⟨h.1, h.2.1⟩
    refine yl_grd (by omega) (yl_grd (by rw [rng_len]; omega) (yl_ite (fun _ => ?_) fun _ => ?_))
    · refine yl_grd (by rw [rng_len]; decide) ?_
      rw [lcM (f := fun i => gi d (7 + i).toNat % n) fun i hi => by
        have hi := rng_mem.mp hi
        rw [atI_gi (by omega) (by omega), Option.bind_some, grd_pos (by omega)]]
      rw [Option.bind_some]
      refine law_J1_yl h10 h (fun z => ?_) (by rw [List.length_map, rng_len]; decide) fun x hx => ?_
      · have := congrArg List.length z
        rw [List.length_map, rng_len] at this
        cases this
      · obtain ⟨i, _, rfl⟩ := List.mem_map.mp hx
        exact ⟨Int.emod_nonneg _ (by omega), Int.emod_lt_of_pos _ (by omega)⟩
    · refine law_J1_yl h10 h (fun z => ?_) (by rw [rng_len]; omega) fun x hx => rng_mem.mp hx
      have := congrArg List.length z
      rw [rng_len] at this
      simp at this
      omega
end K02

namespace K02
open PySem L2 PL
theorem all_mk {l : PySem.W.OpenLaw} {w : World} {K : PySem.W.Frag} {h : Heap} {mg : Str → Option Value} {fa f_touching f_fresh_neighbours f_spread f_law_whole f_law_cell f_law_digits f_law_held f_law_small_edge f_law_wide_edges f_law_net f_law_form f_law_numbers f_law_rows f_law_links f_law_asked f_law_path f_law_both_ways f_law : Addr} (X : K.In h) (G : h.Ns mainGlobals mg) (hfa : mg "law" = some (.ref fa)) {od_touching an_touching od_fresh_neighbours an_fresh_neighbours od_spread an_spread od_law_whole an_law_whole od_law_cell an_law_cell od_law_digits an_law_digits od_law_held an_law_held od_law_small_edge an_law_small_edge od_law_wide_edges an_law_wide_edges od_law_net an_law_net od_law_form an_law_form od_law_numbers an_law_numbers od_law_rows an_law_rows od_law_links an_law_links od_law_asked an_law_asked od_law_path an_law_path od_law_both_ways an_law_both_ways od_law an_law : Option Addr} {sl_touching sl_fresh_neighbours sl_spread sl_law_whole sl_law_cell sl_law_digits sl_law_held sl_law_small_edge sl_law_wide_edges sl_law_net sl_law_form sl_law_numbers sl_law_rows sl_law_links sl_law_asked sl_law_path sl_law_both_ways sl_law : Array (Option Value)} {oc_touching kV_touching dc_touching pm_touching cd_touching ct_touching oc_fresh_neighbours kV_fresh_neighbours dc_fresh_neighbours pm_fresh_neighbours cd_fresh_neighbours ct_fresh_neighbours oc_spread kV_spread dc_spread pm_spread cd_spread ct_spread oc_law_whole kV_law_whole dc_law_whole pm_law_whole cd_law_whole ct_law_whole oc_law_cell kV_law_cell dc_law_cell pm_law_cell cd_law_cell ct_law_cell oc_law_digits kV_law_digits dc_law_digits pm_law_digits cd_law_digits ct_law_digits oc_law_held kV_law_held dc_law_held pm_law_held cd_law_held ct_law_held oc_law_small_edge kV_law_small_edge dc_law_small_edge pm_law_small_edge cd_law_small_edge ct_law_small_edge oc_law_wide_edges kV_law_wide_edges dc_law_wide_edges pm_law_wide_edges cd_law_wide_edges ct_law_wide_edges oc_law_net kV_law_net dc_law_net pm_law_net cd_law_net ct_law_net oc_law_form kV_law_form dc_law_form pm_law_form cd_law_form ct_law_form oc_law_numbers kV_law_numbers dc_law_numbers pm_law_numbers cd_law_numbers ct_law_numbers oc_law_rows kV_law_rows dc_law_rows pm_law_rows cd_law_rows ct_law_rows oc_law_links kV_law_links dc_law_links pm_law_links cd_law_links ct_law_links oc_law_asked kV_law_asked dc_law_asked pm_law_asked cd_law_asked ct_law_asked oc_law_path kV_law_path dc_law_path pm_law_path cd_law_path ct_law_path oc_law_both_ways kV_law_both_ways dc_law_both_ways pm_law_both_ways cd_law_both_ways ct_law_both_ways oc_law kV_law dc_law pm_law cd_law ct_law : Value}
    (a_touching : PySem.W.nsIn K mainGlobals "touching" = some (some (.ref f_touching))) (l_touching : K.lookup f_touching = some ⟨oc_touching, od_touching, .func (PySem.W.fnOf "touching" "touching" (defArgs s_touching) (defBody s_touching) (defScope s_touching) .none kV_touching dc_touching pm_touching an_touching cd_touching ct_touching), sl_touching⟩) (c_touching : PySem.W.codeIn K cd_touching "touching" = true) (k_touching : PySem.W.keepIn K (.ref f_touching) = true)
    (a_fresh_neighbours : PySem.W.nsIn K mainGlobals "fresh_neighbours" = some (some (.ref f_fresh_neighbours))) (l_fresh_neighbours : K.lookup f_fresh_neighbours = some ⟨oc_fresh_neighbours, od_fresh_neighbours, .func (PySem.W.fnOf "fresh_neighbours" "fresh_neighbours" (defArgs s_fresh_neighbours) (defBody s_fresh_neighbours) (defScope s_fresh_neighbours) .none kV_fresh_neighbours dc_fresh_neighbours pm_fresh_neighbours an_fresh_neighbours cd_fresh_neighbours ct_fresh_neighbours), sl_fresh_neighbours⟩) (c_fresh_neighbours : PySem.W.codeIn K cd_fresh_neighbours "fresh_neighbours" = true) (k_fresh_neighbours : PySem.W.keepIn K (.ref f_fresh_neighbours) = true)
    (a_spread : PySem.W.nsIn K mainGlobals "spread" = some (some (.ref f_spread))) (l_spread : K.lookup f_spread = some ⟨oc_spread, od_spread, .func (PySem.W.fnOf "spread" "spread" (defArgs s_spread) (defBody s_spread) (defScope s_spread) .none kV_spread dc_spread pm_spread an_spread cd_spread ct_spread), sl_spread⟩) (c_spread : PySem.W.codeIn K cd_spread "spread" = true) (k_spread : PySem.W.keepIn K (.ref f_spread) = true)
    (a_law_whole : PySem.W.nsIn K mainGlobals "_law_whole" = some (some (.ref f_law_whole))) (l_law_whole : K.lookup f_law_whole = some ⟨oc_law_whole, od_law_whole, .func (PySem.W.fnOf "_law_whole" "_law_whole" (defArgs s_law_whole) (defBody s_law_whole) (defScope s_law_whole) .none kV_law_whole dc_law_whole pm_law_whole an_law_whole cd_law_whole ct_law_whole), sl_law_whole⟩) (c_law_whole : PySem.W.codeIn K cd_law_whole "_law_whole" = true) (k_law_whole : PySem.W.keepIn K (.ref f_law_whole) = true)
    (a_law_cell : PySem.W.nsIn K mainGlobals "_law_cell" = some (some (.ref f_law_cell))) (l_law_cell : K.lookup f_law_cell = some ⟨oc_law_cell, od_law_cell, .func (PySem.W.fnOf "_law_cell" "_law_cell" (defArgs s_law_cell) (defBody s_law_cell) (defScope s_law_cell) .none kV_law_cell dc_law_cell pm_law_cell an_law_cell cd_law_cell ct_law_cell), sl_law_cell⟩) (c_law_cell : PySem.W.codeIn K cd_law_cell "_law_cell" = true) (k_law_cell : PySem.W.keepIn K (.ref f_law_cell) = true)
    (a_law_digits : PySem.W.nsIn K mainGlobals "_law_digits" = some (some (.ref f_law_digits))) (l_law_digits : K.lookup f_law_digits = some ⟨oc_law_digits, od_law_digits, .func (PySem.W.fnOf "_law_digits" "_law_digits" (defArgs s_law_digits) (defBody s_law_digits) (defScope s_law_digits) .none kV_law_digits dc_law_digits pm_law_digits an_law_digits cd_law_digits ct_law_digits), sl_law_digits⟩) (c_law_digits : PySem.W.codeIn K cd_law_digits "_law_digits" = true) (k_law_digits : PySem.W.keepIn K (.ref f_law_digits) = true)
    (a_law_held : PySem.W.nsIn K mainGlobals "_law_held" = some (some (.ref f_law_held))) (l_law_held : K.lookup f_law_held = some ⟨oc_law_held, od_law_held, .func (PySem.W.fnOf "_law_held" "_law_held" (defArgs s_law_held) (defBody s_law_held) (defScope s_law_held) .none kV_law_held dc_law_held pm_law_held an_law_held cd_law_held ct_law_held), sl_law_held⟩) (c_law_held : PySem.W.codeIn K cd_law_held "_law_held" = true) (k_law_held : PySem.W.keepIn K (.ref f_law_held) = true)
    (a_law_small_edge : PySem.W.nsIn K mainGlobals "_law_small_edge" = some (some (.ref f_law_small_edge))) (l_law_small_edge : K.lookup f_law_small_edge = some ⟨oc_law_small_edge, od_law_small_edge, .func (PySem.W.fnOf "_law_small_edge" "_law_small_edge" (defArgs s_law_small_edge) (defBody s_law_small_edge) (defScope s_law_small_edge) .none kV_law_small_edge dc_law_small_edge pm_law_small_edge an_law_small_edge cd_law_small_edge ct_law_small_edge), sl_law_small_edge⟩) (c_law_small_edge : PySem.W.codeIn K cd_law_small_edge "_law_small_edge" = true) (k_law_small_edge : PySem.W.keepIn K (.ref f_law_small_edge) = true)
    (a_law_wide_edges : PySem.W.nsIn K mainGlobals "_law_wide_edges" = some (some (.ref f_law_wide_edges))) (l_law_wide_edges : K.lookup f_law_wide_edges = some ⟨oc_law_wide_edges, od_law_wide_edges, .func (PySem.W.fnOf "_law_wide_edges" "_law_wide_edges" (defArgs s_law_wide_edges) (defBody s_law_wide_edges) (defScope s_law_wide_edges) .none kV_law_wide_edges dc_law_wide_edges pm_law_wide_edges an_law_wide_edges cd_law_wide_edges ct_law_wide_edges), sl_law_wide_edges⟩) (c_law_wide_edges : PySem.W.codeIn K cd_law_wide_edges "_law_wide_edges" = true) (k_law_wide_edges : PySem.W.keepIn K (.ref f_law_wide_edges) = true)
    (a_law_net : PySem.W.nsIn K mainGlobals "_law_net" = some (some (.ref f_law_net))) (l_law_net : K.lookup f_law_net = some ⟨oc_law_net, od_law_net, .func (PySem.W.fnOf "_law_net" "_law_net" (defArgs s_law_net) (defBody s_law_net) (defScope s_law_net) .none kV_law_net dc_law_net pm_law_net an_law_net cd_law_net ct_law_net), sl_law_net⟩) (c_law_net : PySem.W.codeIn K cd_law_net "_law_net" = true) (k_law_net : PySem.W.keepIn K (.ref f_law_net) = true)
    (a_law_form : PySem.W.nsIn K mainGlobals "_law_form" = some (some (.ref f_law_form))) (l_law_form : K.lookup f_law_form = some ⟨oc_law_form, od_law_form, .func (PySem.W.fnOf "_law_form" "_law_form" (defArgs s_law_form) (defBody s_law_form) (defScope s_law_form) .none kV_law_form dc_law_form pm_law_form an_law_form cd_law_form ct_law_form), sl_law_form⟩) (c_law_form : PySem.W.codeIn K cd_law_form "_law_form" = true) (k_law_form : PySem.W.keepIn K (.ref f_law_form) = true)
    (a_law_numbers : PySem.W.nsIn K mainGlobals "_law_numbers" = some (some (.ref f_law_numbers))) (l_law_numbers : K.lookup f_law_numbers = some ⟨oc_law_numbers, od_law_numbers, .func (PySem.W.fnOf "_law_numbers" "_law_numbers" (defArgs s_law_numbers) (defBody s_law_numbers) (defScope s_law_numbers) .none kV_law_numbers dc_law_numbers pm_law_numbers an_law_numbers cd_law_numbers ct_law_numbers), sl_law_numbers⟩) (c_law_numbers : PySem.W.codeIn K cd_law_numbers "_law_numbers" = true) (k_law_numbers : PySem.W.keepIn K (.ref f_law_numbers) = true)
    (a_law_rows : PySem.W.nsIn K mainGlobals "_law_rows" = some (some (.ref f_law_rows))) (l_law_rows : K.lookup f_law_rows = some ⟨oc_law_rows, od_law_rows, .func (PySem.W.fnOf "_law_rows" "_law_rows" (defArgs s_law_rows) (defBody s_law_rows) (defScope s_law_rows) .none kV_law_rows dc_law_rows pm_law_rows an_law_rows cd_law_rows ct_law_rows), sl_law_rows⟩) (c_law_rows : PySem.W.codeIn K cd_law_rows "_law_rows" = true) (k_law_rows : PySem.W.keepIn K (.ref f_law_rows) = true)
    (a_law_links : PySem.W.nsIn K mainGlobals "_law_links" = some (some (.ref f_law_links))) (l_law_links : K.lookup f_law_links = some ⟨oc_law_links, od_law_links, .func (PySem.W.fnOf "_law_links" "_law_links" (defArgs s_law_links) (defBody s_law_links) (defScope s_law_links) .none kV_law_links dc_law_links pm_law_links an_law_links cd_law_links ct_law_links), sl_law_links⟩) (c_law_links : PySem.W.codeIn K cd_law_links "_law_links" = true) (k_law_links : PySem.W.keepIn K (.ref f_law_links) = true)
    (a_law_asked : PySem.W.nsIn K mainGlobals "_law_asked" = some (some (.ref f_law_asked))) (l_law_asked : K.lookup f_law_asked = some ⟨oc_law_asked, od_law_asked, .func (PySem.W.fnOf "_law_asked" "_law_asked" (defArgs s_law_asked) (defBody s_law_asked) (defScope s_law_asked) .none kV_law_asked dc_law_asked pm_law_asked an_law_asked cd_law_asked ct_law_asked), sl_law_asked⟩) (c_law_asked : PySem.W.codeIn K cd_law_asked "_law_asked" = true) (k_law_asked : PySem.W.keepIn K (.ref f_law_asked) = true)
    (a_law_path : PySem.W.nsIn K mainGlobals "_law_path" = some (some (.ref f_law_path))) (l_law_path : K.lookup f_law_path = some ⟨oc_law_path, od_law_path, .func (PySem.W.fnOf "_law_path" "_law_path" (defArgs s_law_path) (defBody s_law_path) (defScope s_law_path) .none kV_law_path dc_law_path pm_law_path an_law_path cd_law_path ct_law_path), sl_law_path⟩) (c_law_path : PySem.W.codeIn K cd_law_path "_law_path" = true) (k_law_path : PySem.W.keepIn K (.ref f_law_path) = true)
    (a_law_both_ways : PySem.W.nsIn K mainGlobals "_law_both_ways" = some (some (.ref f_law_both_ways))) (l_law_both_ways : K.lookup f_law_both_ways = some ⟨oc_law_both_ways, od_law_both_ways, .func (PySem.W.fnOf "_law_both_ways" "_law_both_ways" (defArgs s_law_both_ways) (defBody s_law_both_ways) (defScope s_law_both_ways) .none kV_law_both_ways dc_law_both_ways pm_law_both_ways an_law_both_ways cd_law_both_ways ct_law_both_ways), sl_law_both_ways⟩) (c_law_both_ways : PySem.W.codeIn K cd_law_both_ways "_law_both_ways" = true) (k_law_both_ways : PySem.W.keepIn K (.ref f_law_both_ways) = true)
    (a_law : PySem.W.nsIn K mainGlobals "law" = some (some (.ref f_law))) (l_law : K.lookup f_law = some ⟨oc_law, od_law, .func (PySem.W.fnOf "law" "law" (defArgs s_law) (defBody s_law) (defScope s_law) .none kV_law dc_law pm_law an_law cd_law ct_law), sl_law⟩) (c_law : PySem.W.codeIn K cd_law "law" = true) (k_law : PySem.W.keepIn K (.ref f_law) = true)
    (z_len : PySem.W.nsIn K mainGlobals "len" = some none) (z_int : PySem.W.nsIn K mainGlobals "int" = some none) (z_abs : PySem.W.nsIn K mainGlobals "abs" = some none) (z_sum : PySem.W.nsIn K mainGlobals "sum" = some none) (z_min : PySem.W.nsIn K mainGlobals "min" = some none) (z_max : PySem.W.nsIn K mainGlobals "max" = some none) (z_list : PySem.W.nsIn K mainGlobals "list" = some none) (z_tuple : PySem.W.nsIn K mainGlobals "tuple" = some none) (z_sorted : PySem.W.nsIn K mainGlobals "sorted" = some none) (z_isinstance : PySem.W.nsIn K mainGlobals "isinstance" = some none) (z_range : PySem.W.nsIn K mainGlobals "range" = some none) (z_set : PySem.W.nsIn K mainGlobals "set" = some none) (z_bool : PySem.W.nsIn K mainGlobals "bool" = some none) (z_str : PySem.W.nsIn K mainGlobals "str" = some none) (z_dict : PySem.W.nsIn K mainGlobals "dict" = some none) (z_enumerate : PySem.W.nsIn K mainGlobals "enumerate" = some none) :
    ∃ fd : FuncData, (∀ (s : Shared) (v : Value), BindsTo s fd ⟨[v], []⟩ [("script", v)]) ∧ ∀ base : Heap, K.In base → base.Ns mainGlobals mg → FnOk l.prog w K mg base CX0 4 fa fd ["script"] (spF K (spS sp_law.s)) := by
  have e := hfa.symm.trans (PySem.W.mg_of X G a_law)
  cases e
  let T : Txt K mg := {
    len := PySem.W.mg_none_of X G z_len,
    int := PySem.W.mg_none_of X G z_int,
    abs := PySem.W.mg_none_of X G z_abs,
    sum := PySem.W.mg_none_of X G z_sum,
    min := PySem.W.mg_none_of X G z_min,
    max := PySem.W.mg_none_of X G z_max,
    list := PySem.W.mg_none_of X G z_list,
    tuple := PySem.W.mg_none_of X G z_tuple,
    sorted := PySem.W.mg_none_of X G z_sorted,
    isinstance := PySem.W.mg_none_of X G z_isinstance,
    range := PySem.W.mg_none_of X G z_range,
    set := PySem.W.mg_none_of X G z_set,
    bool := PySem.W.mg_none_of X G z_bool,
    str := PySem.W.mg_none_of X G z_str,
    dict := PySem.W.mg_none_of X G z_dict,
    enumerate := PySem.W.mg_none_of X G z_enumerate,
    f_touching := f_touching,
    d_touching := PySem.W.fnOf "touching" "touching" (defArgs s_touching) (defBody s_touching) (defScope s_touching) .none kV_touching dc_touching pm_touching an_touching cd_touching ct_touching,
    F_touching := fun_mk (st := s_touching) l_touching c_touching k_touching,
    m_touching := PySem.W.mg_of X G a_touching,
    b_touching := (fun_mk (st := s_touching) l_touching c_touching k_touching).binds (ps := ["nodes", "edges"]) fun _ _ _ _ _ _ us hl => match us, hl with | [_, _], _ => rfl,
    f_fresh_neighbours := f_fresh_neighbours,
    d_fresh_neighbours := PySem.W.fnOf "fresh_neighbours" "fresh_neighbours" (defArgs s_fresh_neighbours) (defBody s_fresh_neighbours) (defScope s_fresh_neighbours) .none kV_fresh_neighbours dc_fresh_neighbours pm_fresh_neighbours an_fresh_neighbours cd_fresh_neighbours ct_fresh_neighbours,
    F_fresh_neighbours := fun_mk (st := s_fresh_neighbours) l_fresh_neighbours c_fresh_neighbours k_fresh_neighbours,
    m_fresh_neighbours := PySem.W.mg_of X G a_fresh_neighbours,
    b_fresh_neighbours := (fun_mk (st := s_fresh_neighbours) l_fresh_neighbours c_fresh_neighbours k_fresh_neighbours).binds (ps := ["node", "edges", "holders", "used", "reached"]) fun _ _ _ _ _ _ us hl => match us, hl with | [_, _, _, _, _], _ => rfl,
    f_spread := f_spread,
    d_spread := PySem.W.fnOf "spread" "spread" (defArgs s_spread) (defBody s_spread) (defScope s_spread) .none kV_spread dc_spread pm_spread an_spread cd_spread ct_spread,
    F_spread := fun_mk (st := s_spread) l_spread c_spread k_spread,
    m_spread := PySem.W.mg_of X G a_spread,
    b_spread := (fun_mk (st := s_spread) l_spread c_spread k_spread).binds (ps := ["nodes", "edges", "start"]) fun _ _ _ _ _ _ us hl => match us, hl with | [_, _, _], _ => rfl,
    f_law_whole := f_law_whole,
    d_law_whole := PySem.W.fnOf "_law_whole" "_law_whole" (defArgs s_law_whole) (defBody s_law_whole) (defScope s_law_whole) .none kV_law_whole dc_law_whole pm_law_whole an_law_whole cd_law_whole ct_law_whole,
    F_law_whole := fun_mk (st := s_law_whole) l_law_whole c_law_whole k_law_whole,
    m_law_whole := PySem.W.mg_of X G a_law_whole,
    b_law_whole := (fun_mk (st := s_law_whole) l_law_whole c_law_whole k_law_whole).binds (ps := ["value"]) fun _ _ _ _ _ _ us hl => match us, hl with | [_], _ => rfl,
    f_law_cell := f_law_cell,
    d_law_cell := PySem.W.fnOf "_law_cell" "_law_cell" (defArgs s_law_cell) (defBody s_law_cell) (defScope s_law_cell) .none kV_law_cell dc_law_cell pm_law_cell an_law_cell cd_law_cell ct_law_cell,
    F_law_cell := fun_mk (st := s_law_cell) l_law_cell c_law_cell k_law_cell,
    m_law_cell := PySem.W.mg_of X G a_law_cell,
    b_law_cell := (fun_mk (st := s_law_cell) l_law_cell c_law_cell k_law_cell).binds (ps := ["script", "k"]) fun _ _ _ _ _ _ us hl => match us, hl with | [_, _], _ => rfl,
    f_law_digits := f_law_digits,
    d_law_digits := PySem.W.fnOf "_law_digits" "_law_digits" (defArgs s_law_digits) (defBody s_law_digits) (defScope s_law_digits) .none kV_law_digits dc_law_digits pm_law_digits an_law_digits cd_law_digits ct_law_digits,
    F_law_digits := fun_mk (st := s_law_digits) l_law_digits c_law_digits k_law_digits,
    m_law_digits := PySem.W.mg_of X G a_law_digits,
    b_law_digits := (fun_mk (st := s_law_digits) l_law_digits c_law_digits k_law_digits).binds (ps := ["cell", "sizes"]) fun _ _ _ _ _ _ us hl => match us, hl with | [_, _], _ => rfl,
    f_law_held := f_law_held,
    d_law_held := PySem.W.fnOf "_law_held" "_law_held" (defArgs s_law_held) (defBody s_law_held) (defScope s_law_held) .none kV_law_held dc_law_held pm_law_held an_law_held cd_law_held ct_law_held,
    F_law_held := fun_mk (st := s_law_held) l_law_held c_law_held k_law_held,
    m_law_held := PySem.W.mg_of X G a_law_held,
    b_law_held := (fun_mk (st := s_law_held) l_law_held c_law_held k_law_held).binds (ps := ["nodes", "chosen"]) fun _ _ _ _ _ _ us hl => match us, hl with | [_, _], _ => rfl,
    f_law_small_edge := f_law_small_edge,
    d_law_small_edge := PySem.W.fnOf "_law_small_edge" "_law_small_edge" (defArgs s_law_small_edge) (defBody s_law_small_edge) (defScope s_law_small_edge) .none kV_law_small_edge dc_law_small_edge pm_law_small_edge an_law_small_edge cd_law_small_edge ct_law_small_edge,
    F_law_small_edge := fun_mk (st := s_law_small_edge) l_law_small_edge c_law_small_edge k_law_small_edge,
    m_law_small_edge := PySem.W.mg_of X G a_law_small_edge,
    b_law_small_edge := (fun_mk (st := s_law_small_edge) l_law_small_edge c_law_small_edge k_law_small_edge).binds (ps := ["cell", "nodes", "edges", "loose"]) fun _ _ _ _ _ _ us hl => match us, hl with | [_, _, _, _], _ => rfl,
    f_law_wide_edges := f_law_wide_edges,
    d_law_wide_edges := PySem.W.fnOf "_law_wide_edges" "_law_wide_edges" (defArgs s_law_wide_edges) (defBody s_law_wide_edges) (defScope s_law_wide_edges) .none kV_law_wide_edges dc_law_wide_edges pm_law_wide_edges an_law_wide_edges cd_law_wide_edges ct_law_wide_edges,
    F_law_wide_edges := fun_mk (st := s_law_wide_edges) l_law_wide_edges c_law_wide_edges k_law_wide_edges,
    m_law_wide_edges := PySem.W.mg_of X G a_law_wide_edges,
    b_law_wide_edges := (fun_mk (st := s_law_wide_edges) l_law_wide_edges c_law_wide_edges k_law_wide_edges).binds (ps := ["cell", "nodes"]) fun _ _ _ _ _ _ us hl => match us, hl with | [_, _], _ => rfl,
    f_law_net := f_law_net,
    d_law_net := PySem.W.fnOf "_law_net" "_law_net" (defArgs s_law_net) (defBody s_law_net) (defScope s_law_net) .none kV_law_net dc_law_net pm_law_net an_law_net cd_law_net ct_law_net,
    F_law_net := fun_mk (st := s_law_net) l_law_net c_law_net k_law_net,
    m_law_net := PySem.W.mg_of X G a_law_net,
    b_law_net := (fun_mk (st := s_law_net) l_law_net c_law_net k_law_net).binds (ps := ["script", "at"]) fun _ _ _ _ _ _ us hl => match us, hl with | [_, _], _ => rfl,
    f_law_form := f_law_form,
    d_law_form := PySem.W.fnOf "_law_form" "_law_form" (defArgs s_law_form) (defBody s_law_form) (defScope s_law_form) .none kV_law_form dc_law_form pm_law_form an_law_form cd_law_form ct_law_form,
    F_law_form := fun_mk (st := s_law_form) l_law_form c_law_form k_law_form,
    m_law_form := PySem.W.mg_of X G a_law_form,
    b_law_form := (fun_mk (st := s_law_form) l_law_form c_law_form k_law_form).binds (ps := ["rows", "form"]) fun _ _ _ _ _ _ us hl => match us, hl with | [_, _], _ => rfl,
    f_law_numbers := f_law_numbers,
    d_law_numbers := PySem.W.fnOf "_law_numbers" "_law_numbers" (defArgs s_law_numbers) (defBody s_law_numbers) (defScope s_law_numbers) .none kV_law_numbers dc_law_numbers pm_law_numbers an_law_numbers cd_law_numbers ct_law_numbers,
    F_law_numbers := fun_mk (st := s_law_numbers) l_law_numbers c_law_numbers k_law_numbers,
    m_law_numbers := PySem.W.mg_of X G a_law_numbers,
    b_law_numbers := (fun_mk (st := s_law_numbers) l_law_numbers c_law_numbers k_law_numbers).binds (ps := ["told", "due"]) fun _ _ _ _ _ _ us hl => match us, hl with | [_, _], _ => rfl,
    f_law_rows := f_law_rows,
    d_law_rows := PySem.W.fnOf "_law_rows" "_law_rows" (defArgs s_law_rows) (defBody s_law_rows) (defScope s_law_rows) .none kV_law_rows dc_law_rows pm_law_rows an_law_rows cd_law_rows ct_law_rows,
    F_law_rows := fun_mk (st := s_law_rows) l_law_rows c_law_rows k_law_rows,
    m_law_rows := PySem.W.mg_of X G a_law_rows,
    b_law_rows := (fun_mk (st := s_law_rows) l_law_rows c_law_rows k_law_rows).binds (ps := ["nodes", "edges", "start"]) fun _ _ _ _ _ _ us hl => match us, hl with | [_, _, _], _ => rfl,
    f_law_links := f_law_links,
    d_law_links := PySem.W.fnOf "_law_links" "_law_links" (defArgs s_law_links) (defBody s_law_links) (defScope s_law_links) .none kV_law_links dc_law_links pm_law_links an_law_links cd_law_links ct_law_links,
    F_law_links := fun_mk (st := s_law_links) l_law_links c_law_links k_law_links,
    m_law_links := PySem.W.mg_of X G a_law_links,
    b_law_links := (fun_mk (st := s_law_links) l_law_links c_law_links k_law_links).binds (ps := ["nodes", "edges", "start"]) fun _ _ _ _ _ _ us hl => match us, hl with | [_, _, _], _ => rfl,
    f_law_asked := f_law_asked,
    d_law_asked := PySem.W.fnOf "_law_asked" "_law_asked" (defArgs s_law_asked) (defBody s_law_asked) (defScope s_law_asked) .none kV_law_asked dc_law_asked pm_law_asked an_law_asked cd_law_asked ct_law_asked,
    F_law_asked := fun_mk (st := s_law_asked) l_law_asked c_law_asked k_law_asked,
    m_law_asked := PySem.W.mg_of X G a_law_asked,
    b_law_asked := (fun_mk (st := s_law_asked) l_law_asked c_law_asked k_law_asked).binds (ps := ["nodes", "edges", "start", "links", "form"]) fun _ _ _ _ _ _ us hl => match us, hl with | [_, _, _, _, _], _ => rfl,
    f_law_path := f_law_path,
    d_law_path := PySem.W.fnOf "_law_path" "_law_path" (defArgs s_law_path) (defBody s_law_path) (defScope s_law_path) .none kV_law_path dc_law_path pm_law_path an_law_path cd_law_path ct_law_path,
    F_law_path := fun_mk (st := s_law_path) l_law_path c_law_path k_law_path,
    m_law_path := PySem.W.mg_of X G a_law_path,
    b_law_path := (fun_mk (st := s_law_path) l_law_path c_law_path k_law_path).binds (ps := ["draw"]) fun _ _ _ _ _ _ us hl => match us, hl with | [_], _ => rfl,
    f_law_both_ways := f_law_both_ways,
    d_law_both_ways := PySem.W.fnOf "_law_both_ways" "_law_both_ways" (defArgs s_law_both_ways) (defBody s_law_both_ways) (defScope s_law_both_ways) .none kV_law_both_ways dc_law_both_ways pm_law_both_ways an_law_both_ways cd_law_both_ways ct_law_both_ways,
    F_law_both_ways := fun_mk (st := s_law_both_ways) l_law_both_ways c_law_both_ways k_law_both_ways,
    m_law_both_ways := PySem.W.mg_of X G a_law_both_ways,
    b_law_both_ways := (fun_mk (st := s_law_both_ways) l_law_both_ways c_law_both_ways k_law_both_ways).binds (ps := ["at", "place"]) fun _ _ _ _ _ _ us hl => match us, hl with | [_, _], _ => rfl,
    f_law := fa,
    d_law := PySem.W.fnOf "law" "law" (defArgs s_law) (defBody s_law) (defScope s_law) .none kV_law dc_law pm_law an_law cd_law ct_law,
    F_law := fun_mk (st := s_law) l_law c_law k_law,
    m_law := PySem.W.mg_of X G a_law,
    b_law := (fun_mk (st := s_law) l_law c_law k_law).binds (ps := ["script"]) fun _ _ _ _ _ _ us hl => match us, hl with | [_], _ => rfl }
  exact ⟨PySem.W.fnOf "law" "law" (defArgs s_law) (defBody s_law) (defScope s_law) .none kV_law dc_law pm_law an_law cd_law ct_law, fun s v => .of_eq rfl, fun base _ _ => ok_law (P := l.prog) (w := w) (base := base) T⟩
theorem law_sp {K : PySem.W.Frag} {H : Hp} {a : Addr} {ns : List Int} (hl : ns.length ≤ 63) (hS : SqL K H a (ns.map V.int)) : spF K (spS sp_law.s) [.ref a] H (fun v _ => v = .bl true) fun _ _ _ => False := by
  have rp : RepL K H [.ref a] [.node .ro (ns.map .int)] := .cons (.node (sh := .ro) hS (by rw [List.length_map]; exact Nat.le_trans hl (by decide)) (repL_ints ns)) .nil
  have lt : law ns = some true := law_true ns hl
  refine ⟨H, H, [.s (.node .ro (ns.map .int))], ⟨.refl _, .refl _, [], args_sh rp⟩, rfl, ns, ⟨_, rfl, rfl, by rw [show fn_law ns = law ns from rfl, lt]; rfl⟩, fun t outs e S' B' v H' ev sr => ?_⟩
  obtain ⟨r, e1, e2⟩ := e
  have e1 : law ns = some r := e1
  rw [lt] at e1
  cases e1
  subst e2
  have r := sr.scal
  cases r
  rfl
theorem walk {l : PySem.W.OpenLaw} {q : Program} {loose : List Str} {XP : (Str → Option Value) → Heap → Prop} {YP : World → Heap → Prop} {d : DefRec} {K : Params → PySem.W.Frag} (hn : l.most = some 63) (hdf : d.params.defaults = [])
    (hY : ∀ (w : World) (h : Heap), YP w h → (K w.params).In h)
    (F : ∀ (w : World) (mg : Str → Option Value) (fa : Addr) (h : Heap), (K w.params).In h → h.Ns mainGlobals mg → mg d.name = some (.ref fa) →
      ∃ fd : FuncData, (∀ (s : Shared) (u : Value), BindsTo s fd ⟨[u], []⟩ [("script", u)]) ∧ ∀ base : Heap, (K w.params).In base → base.Ns mainGlobals mg → FnOk l.prog w (K w.params) mg base CX0 4 fa fd ["script"] (spF (K w.params) (spS sp_law.s))) :
    PySem.W.WalkO q loose XP YP l.row.toRowW d [] (fun f vs => PySem.call f vs) :=
  L2.walk_of (n := 63) (k := 4) (x := "script") (CX := fun _ => CX0) (sp := fun w => spF (K w.params) (spS sp_law.s)) hn (by decide) hdf ⟨rfl, by decide, by decide⟩ hY F (fun _ _ a ns hl _ hS => law_sp hl hS) fun _ _ _ _ _ z => z
end K02
open PySem PySem.W PyProof.Rows in
set_option maxRecDepth 100000 in
set_option maxHeartbeats 0 in
theorem PySem.Challenge.cw_whywait_k02_spread_whole_holds : PySem.Challenge.rw_whywait_k02_spread_whole.Holds := by
  w_on; o_law; k_head; (case hw => w_witness2)
  k_fill
  refine K02.walk (l := PySem.Challenge.rw_whywait_k02_spread_whole) rfl rfl (fun w h Y => PySem.W.kIn_of Y) ?F
  case F =>
    intro w mg fa h KX G hmg
    refine' K02.all_mk KX G hmg ?a_touching ?l_touching ?c_touching ?k_touching ?a_fresh_neighbours ?l_fresh_neighbours ?c_fresh_neighbours ?k_fresh_neighbours ?a_spread ?l_spread ?c_spread ?k_spread ?a_law_whole ?l_law_whole ?c_law_whole ?k_law_whole ?a_law_cell ?l_law_cell ?c_law_cell ?k_law_cell ?a_law_digits ?l_law_digits ?c_law_digits ?k_law_digits ?a_law_held ?l_law_held ?c_law_held ?k_law_held ?a_law_small_edge ?l_law_small_edge ?c_law_small_edge ?k_law_small_edge ?a_law_wide_edges ?l_law_wide_edges ?c_law_wide_edges ?k_law_wide_edges ?a_law_net ?l_law_net ?c_law_net ?k_law_net ?a_law_form ?l_law_form ?c_law_form ?k_law_form ?a_law_numbers ?l_law_numbers ?c_law_numbers ?k_law_numbers ?a_law_rows ?l_law_rows ?c_law_rows ?k_law_rows ?a_law_links ?l_law_links ?c_law_links ?k_law_links ?a_law_asked ?l_law_asked ?c_law_asked ?k_law_asked ?a_law_path ?l_law_path ?c_law_path ?k_law_path ?a_law_both_ways ?l_law_both_ways ?c_law_both_ways ?k_law_both_ways ?a_law ?l_law ?c_law ?k_law ?z_len ?z_int ?z_abs ?z_sum ?z_min ?z_max ?z_list ?z_tuple ?z_sorted ?z_isinstance ?z_range ?z_set ?z_bool ?z_str ?z_dict ?z_enumerate
    (case a_touching => k_is)
    (case l_touching => k_is)
    (case c_touching => k_is)
    (case k_touching => k_is)
    (case a_fresh_neighbours => k_is)
    (case l_fresh_neighbours => k_is)
    (case c_fresh_neighbours => k_is)
    (case k_fresh_neighbours => k_is)
    (case a_spread => k_is)
    (case l_spread => k_is)
    (case c_spread => k_is)
    (case k_spread => k_is)
    (case a_law_whole => k_is)
    (case l_law_whole => k_is)
    (case c_law_whole => k_is)
    (case k_law_whole => k_is)
    (case a_law_cell => k_is)
    (case l_law_cell => k_is)
    (case c_law_cell => k_is)
    (case k_law_cell => k_is)
    (case a_law_digits => k_is)
    (case l_law_digits => k_is)
    (case c_law_digits => k_is)
    (case k_law_digits => k_is)
    (case a_law_held => k_is)
    (case l_law_held => k_is)
    (case c_law_held => k_is)
    (case k_law_held => k_is)
    (case a_law_small_edge => k_is)
    (case l_law_small_edge => k_is)
    (case c_law_small_edge => k_is)
    (case k_law_small_edge => k_is)
    (case a_law_wide_edges => k_is)
    (case l_law_wide_edges => k_is)
    (case c_law_wide_edges => k_is)
    (case k_law_wide_edges => k_is)
    (case a_law_net => k_is)
    (case l_law_net => k_is)
    (case c_law_net => k_is)
    (case k_law_net => k_is)
    (case a_law_form => k_is)
    (case l_law_form => k_is)
    (case c_law_form => k_is)
    (case k_law_form => k_is)
    (case a_law_numbers => k_is)
    (case l_law_numbers => k_is)
    (case c_law_numbers => k_is)
    (case k_law_numbers => k_is)
    (case a_law_rows => k_is)
    (case l_law_rows => k_is)
    (case c_law_rows => k_is)
    (case k_law_rows => k_is)
    (case a_law_links => k_is)
    (case l_law_links => k_is)
    (case c_law_links => k_is)
    (case k_law_links => k_is)
    (case a_law_asked => k_is)
    (case l_law_asked => k_is)
    (case c_law_asked => k_is)
    (case k_law_asked => k_is)
    (case a_law_path => k_is)
    (case l_law_path => k_is)
    (case c_law_path => k_is)
    (case k_law_path => k_is)
    (case a_law_both_ways => k_is)
    (case l_law_both_ways => k_is)
    (case c_law_both_ways => k_is)
    (case k_law_both_ways => k_is)
    (case a_law => k_is)
    (case l_law => k_is)
    (case c_law => k_is)
    (case k_law => k_is)
    (case z_len => k_is)
    (case z_int => k_is)
    (case z_abs => k_is)
    (case z_sum => k_is)
    (case z_min => k_is)
    (case z_max => k_is)
    (case z_list => k_is)
    (case z_tuple => k_is)
    (case z_sorted => k_is)
    (case z_isinstance => k_is)
    (case z_range => k_is)
    (case z_set => k_is)
    (case z_bool => k_is)
    (case z_str => k_is)
    (case z_dict => k_is)
    (case z_enumerate => k_is)
